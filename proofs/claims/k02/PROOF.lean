import PyProof.Rows.All
import Wide.All
import OpenK.AllK
import Wide.FinOn
import HandS.ForMost
import HandS.ForExc
import HandS.Wide
import HandS.IsInst
import HandS.TupAny
import HandS.Deep
import HandS.Small
import HandS.ExcIs
import HandS.SetFor
import HandS.More
import HandS.Style
import HandS.SortInts
import PyProof.LongRange
import HandS.Star
import HandS.Walk
import KE.SortData
import HandS.Conv
import HandS.Dict
import KE.KDictDisplayH
import HandS.Strs
import HandS.Iter
import HandS.Text
import HandS.Defaults
import PyProof.StrBlock2
import PyProof.Rows.StrMul
import KE.KOpsOwn
import HandS.Property
import HandS.ExcOwn
import PyProof.InstNe
import KE.KExcSuper
import HandS.NestedK
import HandS.ExcInit
import HandS.ExcValue
import HandS.ExcField
import HandS.Steps
import HandS.Replace
import HandS.Codes
import PyProof.Rows.StrJoinRep
import PySem.Challenge.RW_handedtext_k02_whole_texts_read
set_option Elab.async false
set_option linter.all false
set_option maxRecDepth 100000
set_option maxHeartbeats 2000000
/-! A data layer over the hand layer: what a def does is told over plain data (D), without the heap. -/
namespace Hm
open PySem L2

/-! ### data -/
inductive D where
  | non | bl (b : Bool) | int (i : Int) | str (s : Str)
  | tup (xs : List D) | lst (xs : List D) | dct (kvs : List (Key × D))
  | exc (c : Str) (fs : List (Str × D))
  | src
  | obj (c : Str) (fs : List (Str × D))

structure Err where
  c : Str
  fs : List (Str × D)

/-- the written part, the classes of errors by name, the source's two lists -/
structure Gc where
  K : PySem.W.Frag
  ct : Str → Option Addr
  src : Option (Addr × Addr)

def InS (g : Gc) (a : Addr) : Prop := ∃ s c, g.src = some (s, c) ∧ (a = s ∨ a = c)
def WrT (K : PySem.W.Frag) (a : Addr) (xs : List V) : Prop :=
  ∃ (o : Obj) (its : Array Value) (n : Nat), K.lookup a = some o ∧ o.cls = .type "tuple" ∧ o.data = .seq its n ∧ its.size ≤ sizeLine ∧ Vals xs its.toList
/-- an error's object, held -/
def ExO (cls : Value) (a : Addr) (d : Option Addr) : HO := .ext fun h => ∃ (oe : Obj) (vs : Array Value), h.get? a = some oe ∧ Zc cls d oe ∧ oe.data = .fields vs

mutual
inductive Rep (g : Gc) (B : Addr → Prop) (H : Hp) : V → D → Prop
  | non : Rep g B H .non .non
  | bl (b : Bool) : Rep g B H (.bl b) (.bl b)
  | int (i : Int) : Rep g B H (.int i) (.int i)
  | str (s : Str) : Rep g B H (.str s) (.str s)
  | tup {a : Addr} {xs : List V} {ds : List D} : H a = some (.tup xs) → ¬ B a → Reps g B H xs ds → Rep g B H (.ref a) (.tup ds)
  | wtup {a : Addr} {xs : List V} {ds : List D} : WrT g.K a xs → Reps g B H xs ds → Rep g B H (.ref a) (.tup ds)
  | lst {a : Addr} {xs : List V} {ds : List D} : H a = some (.lst xs) → ¬ B a → Reps g B H xs ds → Rep g B H (.ref a) (.lst ds)
  | dct {a : Addr} {kvs : List (Key × V)} {ds : List (Key × D)} : H a = some (.dK kvs) → ¬ B a → RepsK g B H kvs ds → Rep g B H (.ref a) (.dct ds)
  | exc0 {a C : Addr} {c : Str} : g.ct c = some C → H a = some (ExO (.ref C) a none) → ¬ B a → Rep g B H (.ref a) (.exc c [])
  | exc1 {a C d : Addr} {c : Str} {kvs : List (Str × V)} {ds : List (Str × D)} : g.ct c = some C → H a = some (ExO (.ref C) a (some d)) → ¬ B a → H d = some (.xd kvs) → ¬ B d → RepsF g B H kvs ds → ds ≠ [] → Rep g B H (.ref a) (.exc c ds)
  | src {s c : Addr} : g.src = some (s, c) → Rep g B H (.ref s) .src
  | obj {a C dx : Addr} {c : Str} {kvs : List (Str × V)} {ds : List (Str × D)} : PySem.W.nsIn g.K mainGlobals c = some (some (.ref C)) → H a = some (.ins C dx kvs) → ¬ B a → RepsF g B H kvs ds → Rep g B H (.ref a) (.obj c ds)
inductive Reps (g : Gc) (B : Addr → Prop) (H : Hp) : List V → List D → Prop
  | nil : Reps g B H [] []
  | cons {v : V} {vs : List V} {d : D} {ds : List D} : Rep g B H v d → Reps g B H vs ds → Reps g B H (v :: vs) (d :: ds)
inductive RepsK (g : Gc) (B : Addr → Prop) (H : Hp) : List (Key × V) → List (Key × D) → Prop
  | nil : RepsK g B H [] []
  | cons {k : Key} {v : V} {vs : List (Key × V)} {d : D} {ds : List (Key × D)} : Rep g B H v d → RepsK g B H vs ds → RepsK g B H ((k, v) :: vs) ((k, d) :: ds)
inductive RepsF (g : Gc) (B : Addr → Prop) (H : Hp) : List (Str × V) → List (Str × D) → Prop
  | nil : RepsF g B H [] []
  | cons {k : Str} {v : V} {vs : List (Str × V)} {d : D} {ds : List (Str × D)} : Rep g B H v d → RepsF g B H vs ds → RepsF g B H ((k, v) :: vs) ((k, d) :: ds)
end

section
variable {g : Gc} {B B' : Addr → Prop} {H H' : Hp}
/- what a datum leans on stands, and is not among B' -/
mutual
theorem Rep.move (k : ∀ a o, H a = some o → ¬ B a → H' a = some o ∧ ¬ B' a) : ∀ {v : V} {d : D}, Rep g B H v d → Rep g B' H' v d
  | _, _, .non => .non
  | _, _, .bl b => .bl b
  | _, _, .int i => .int i
  | _, _, .str s => .str s
  | _, _, .tup h n r => .tup (k _ _ h n).1 (k _ _ h n).2 (Reps.move k r)
  | _, _, .wtup h r => .wtup h (Reps.move k r)
  | _, _, .lst h n r => .lst (k _ _ h n).1 (k _ _ h n).2 (Reps.move k r)
  | _, _, .dct h n r => .dct (k _ _ h n).1 (k _ _ h n).2 (RepsK.move k r)
  | _, _, .exc0 e h n => .exc0 e (k _ _ h n).1 (k _ _ h n).2
  | _, _, .exc1 e h n h2 n2 r q => .exc1 e (k _ _ h n).1 (k _ _ h n).2 (k _ _ h2 n2).1 (k _ _ h2 n2).2 (RepsF.move k r) q
  | _, _, .src e => .src e
  | _, _, .obj e h n r => .obj e (k _ _ h n).1 (k _ _ h n).2 (RepsF.move k r)
theorem Reps.move (k : ∀ a o, H a = some o → ¬ B a → H' a = some o ∧ ¬ B' a) : ∀ {vs : List V} {ds : List D}, Reps g B H vs ds → Reps g B' H' vs ds
  | _, _, .nil => .nil
  | _, _, .cons r t => .cons (Rep.move k r) (Reps.move k t)
theorem RepsK.move (k : ∀ a o, H a = some o → ¬ B a → H' a = some o ∧ ¬ B' a) : ∀ {vs : List (Key × V)} {ds : List (Key × D)}, RepsK g B H vs ds → RepsK g B' H' vs ds
  | _, _, .nil => .nil
  | _, _, .cons r t => .cons (Rep.move k r) (RepsK.move k t)
theorem RepsF.move (k : ∀ a o, H a = some o → ¬ B a → H' a = some o ∧ ¬ B' a) : ∀ {vs : List (Str × V)} {ds : List (Str × D)}, RepsF g B H vs ds → RepsF g B' H' vs ds
  | _, _, .nil => .nil
  | _, _, .cons r t => .cons (Rep.move k r) (RepsF.move k t)
end
end

/-- dicts whose keys are tuples: the values -/
inductive RepsT (g : Gc) (B : Addr → Prop) (H : Hp) : List (List Key × V) → List (List Key × D) → Prop
  | nil : RepsT g B H [] []
  | cons {k : List Key} {v : V} {vs : List (List Key × V)} {d : D} {ds : List (List Key × D)} : Rep g B H v d → RepsT g B H vs ds → RepsT g B H ((k, v) :: vs) ((k, d) :: ds)
/-- a tracked tuple of ints and texts -/
structure RKt (g : Gc) (B : Addr → Prop) (H : Hp) (v : V) (ks : List Key) : Prop where
  is : ∃ b, v = .ref b ∧ H b = some (.tup (ks.map kV)) ∧ ¬ B b
theorem RepsT.move {g : Gc} {B B' : Addr → Prop} {H H' : Hp} (k : ∀ a o, H a = some o → ¬ B a → H' a = some o ∧ ¬ B' a) : ∀ {vs : List (List Key × V)} {ds : List (List Key × D)}, RepsT g B H vs ds → RepsT g B' H' vs ds
  | _, _, .nil => .nil
  | _, _, .cons r t => .cons (Rep.move k r) (RepsT.move k t)
theorem RKt.move {g : Gc} {B B' : Addr → Prop} {H H' : Hp} (k : ∀ a o, H a = some o → ¬ B a → H' a = some o ∧ ¬ B' a) {v : V} {ks : List Key} (r : RKt g B H v ks) : RKt g B' H' v ks := by
  obtain ⟨b, e, h, n⟩ := r.is
  exact ⟨b, e, (k _ _ h n).1, (k _ _ h n).2⟩
section
variable {g : Gc} {B : Addr → Prop} {H : Hp}
theorem Reps.length : ∀ {vs : List V} {ds : List D}, Reps g B H vs ds → vs.length = ds.length
  | _, _, .nil => rfl
  | _, _, .cons _ t => congrArg (· + 1) (Reps.length t)
theorem Reps.get : ∀ {vs : List V} {ds : List D} {i : Nat} {d : D}, Reps g B H vs ds → ds[i]? = some d → ∃ v, vs[i]? = some v ∧ Rep g B H v d
  | _, _, _, _, .nil, e => by simp at e
  | _, _, 0, _, .cons r _, e => by simp at e; subst e; exact ⟨_, rfl, r⟩
  | _, _, i + 1, d, .cons _ t, e => by
    obtain ⟨v, h1, h2⟩ := Reps.get (i := i) (d := d) t (by simpa using e)
    exact ⟨v, by simpa using h1, h2⟩
theorem Reps.append : ∀ {vs us : List V} {ds es : List D}, Reps g B H vs ds → Reps g B H us es → Reps g B H (vs ++ us) (ds ++ es)
  | _, _, _, _, .nil, s => s
  | _, _, _, _, .cons r t, s => .cons r (Reps.append t s)
theorem Reps.take : ∀ {vs : List V} {ds : List D} (n : Nat), Reps g B H vs ds → Reps g B H (vs.take n) (ds.take n)
  | _, _, 0, _ => .nil
  | _, _, _ + 1, .nil => .nil
  | _, _, n + 1, .cons r t => .cons r (Reps.take n t)
theorem Reps.drop : ∀ {vs : List V} {ds : List D} (n : Nat), Reps g B H vs ds → Reps g B H (vs.drop n) (ds.drop n)
  | _, _, 0, r => r
  | _, _, _ + 1, .nil => .nil
  | _, _, n + 1, .cons _ t => Reps.drop n t
theorem Reps.set {v : V} {d : D} (r : Rep g B H v d) : ∀ {vs : List V} {ds : List D} (i : Nat), Reps g B H vs ds → Reps g B H (vs.set i v) (ds.set i d)
  | _, _, _, .nil => .nil
  | _, _, 0, .cons _ t => .cons r t
  | _, _, i + 1, .cons q t => .cons q (Reps.set r i t)
theorem Reps.reverse : ∀ {vs : List V} {ds : List D}, Reps g B H vs ds → Reps g B H vs.reverse ds.reverse
  | _, _, .nil => .nil
  | _, _, .cons r t => by
    rw [List.reverse_cons, List.reverse_cons]
    exact (Reps.reverse t).append (.cons r .nil)
theorem Reps.replicate {v : V} {d : D} (r : Rep g B H v d) : ∀ n, Reps g B H (List.replicate n v) (List.replicate n d)
  | 0 => .nil
  | n + 1 => .cons r (Reps.replicate r n)
theorem Reps.ints : ∀ (ns : List Int), Reps g B H (ns.map V.int) (ns.map D.int)
  | [] => .nil
  | _ :: r => .cons (.int _) (Reps.ints r)
end

/-! ### the source: its two lists, with room for so many draws -/
def srcLine : Int := 2 ^ 20000
def SrcAt (H : Hp) (s c : Addr) (n : Nat) : Prop := ∃ (cells : List Int) (turn : Int), s ≠ c ∧ H s = some (.lst [.ref c, .int turn]) ∧ H c = some (.lst (cells.map V.int)) ∧
  cells ≠ [] ∧ cells.length ≤ 63 ∧ 0 ≤ turn ∧ turn + (n : Int) ≤ srcLine
def SrcOk (g : Gc) (H : Hp) (n : Nat) : Prop := ∀ s c, g.src = some (s, c) → SrcAt H s c n
theorem SrcOk.mono {g : Gc} {H : Hp} {n m : Nat} (h : SrcOk g H n) (l : m ≤ n) : SrcOk g H m := fun s c e => by
  obtain ⟨cells, turn, h0, h1, h2, h3, h4, h5, h6⟩ := h s c e
  exact ⟨cells, turn, h0, h1, h2, h3, h4, h5, by omega⟩
/-- all that is tracked stands, but the source -/
def Kp (g : Gc) (H H' : Hp) : Prop := ∀ a o, ¬ InS g a → H a = some o → H' a = some o
def Gw (H H' : Hp) : Prop := ∀ a o, H a = some o → H' a = some o
theorem Kp.refl {g : Gc} (H : Hp) : Kp g H H := fun _ _ _ h => h
theorem Kp.trans {g : Gc} {H H1 H2 : Hp} (a : Kp g H H1) (b : Kp g H1 H2) : Kp g H H2 := fun x o n h => b x o n (a x o n h)
theorem Gw.refl (H : Hp) : Gw H H := fun _ _ h => h
theorem Gw.trans {H H1 H2 : Hp} (a : Gw H H1) (b : Gw H1 H2) : Gw H H2 := fun x o h => b x o (a x o h)
theorem Gw.kp {g : Gc} {H H' : Hp} (a : Gw H H') : Kp g H H' := fun x o _ h => a x o h
theorem Gw.new {H : Hp} {p : Addr} {o : HO} (h : H p = none) : Gw H (upd H p o) := fun a u e => by
  rw [upd_ne (ne_of_none e h)]
  exact e
theorem Gw.src {g : Gc} {H H' : Hp} {n : Nat} (a : Gw H H') (h : SrcOk g H n) : SrcOk g H' n := fun s c e => by
  obtain ⟨cells, turn, h0, h1, h2, h3, h4, h5, h6⟩ := h s c e
  exact ⟨cells, turn, h0, a _ _ h1, a _ _ h2, h3, h4, h5, h6⟩

/-! ### the slots -/
inductive Sl where
  | un | dat (d : D) | own (ds : List D) | ownd (kvs : List (Key × D))
  | ownt (kvs : List (List Key × D)) | kt (ks : List Key)
def Sl.isOwn : Sl → Bool
  | .own _ => true
  | .ownd _ => true
  | .ownt _ => true
  | _ => false
abbrev Rho := List Sl

/-- a frame: what its callers keep for themselves, the heap at its entry -/
structure FrC where
  g : Gc
  B0 : Addr → Prop
  H0 : Hp
  N : Addr → Prop
/-- what a returned datum keeps away from -/
def FrC.RB (f : FrC) : Addr → Prop := fun a => f.B0 a ∨ f.N a
structure Okk (f : FrC) (B : Addr → Prop) (H : Hp) (n : Nat) : Prop where
  s0 : ∀ a, InS f.g a → f.B0 a
  d0 : ∀ a, f.B0 a → f.H0 a ≠ none
  b0 : ∀ a, f.B0 a → B a
  ow : ∀ a, B a → f.B0 a ∨ f.H0 a = none
  dom : ∀ a, B a → H a ≠ none
  keep : Kp f.g f.H0 H
  src : SrcOk f.g H n
def SlR (f : FrC) (B : Addr → Prop) (H : Hp) (o : Option V) : Sl → Prop
  | .un => True
  | .dat d => ∃ v, o = some v ∧ Rep f.g B H v d
  | .own ds => ∃ p vs, o = some (.ref p) ∧ B p ∧ f.H0 p = none ∧ H p = some (.lst vs) ∧ Reps f.g B H vs ds
  | .ownd kvs => ∃ p vs, o = some (.ref p) ∧ B p ∧ f.H0 p = none ∧ H p = some (.dK vs) ∧ RepsK f.g B H vs kvs
  | .ownt kvs => ∃ p vs, o = some (.ref p) ∧ B p ∧ f.H0 p = none ∧ H p = some (.dT vs) ∧ RepsT f.g B H vs kvs
  | .kt ks => ∃ v, o = some v ∧ RKt f.g B H v ks
structure Rel (f : FrC) (B : Addr → Prop) (σ : St) (H : Hp) (ρ : Rho) (n : Nat) : Prop where
  ok : Okk f B H n
  len : σ.length = ρ.length
  sl : ∀ (i : Nat) x o, ρ[i]? = some x → σ[i]? = some o → SlR f B H o x
  inj : ∀ (i j : Nat) (p : Addr) x y, i ≠ j → ρ[i]? = some x → x.isOwn = true → ρ[j]? = some y → y.isOwn = true → σ[i]? = some (some (.ref p)) → σ[j]? ≠ some (some (.ref p))

section
variable {f : FrC} {B : Addr → Prop} {σ : St} {H H' : Hp} {ρ : Rho} {n m : Nat}
theorem Okk.inB (k : Okk f B H n) {a : Addr} (h : InS f.g a) : B a := k.b0 a (k.s0 a h)
theorem Okk.nS (k : Okk f B H n) {p : Addr} (h : f.H0 p = none) : ¬ InS f.g p := fun z => k.d0 p (k.s0 p z) h
theorem Rep.kp {v : V} {d : D} (k : Okk f B H n) (e : Kp f.g H H') (r : Rep f.g B H v d) : Rep f.g B H' v d :=
  r.move fun a o h nb => ⟨e a o (fun z => nb (k.inB z)) h, nb⟩
theorem Reps.kp {v : List V} {d : List D} (k : Okk f B H n) (e : Kp f.g H H') (r : Reps f.g B H v d) : Reps f.g B H' v d :=
  r.move fun a o h nb => ⟨e a o (fun z => nb (k.inB z)) h, nb⟩
theorem RepsK.kp {v : List (Key × V)} {d : List (Key × D)} (k : Okk f B H n) (e : Kp f.g H H') (r : RepsK f.g B H v d) : RepsK f.g B H' v d :=
  r.move fun a o h nb => ⟨e a o (fun z => nb (k.inB z)) h, nb⟩
theorem RepsT.kp {v : List (List Key × V)} {d : List (List Key × D)} (k : Okk f B H n) (e : Kp f.g H H') (r : RepsT f.g B H v d) : RepsT f.g B H' v d :=
  r.move fun a o h nb => ⟨e a o (fun z => nb (k.inB z)) h, nb⟩
theorem RKt.kp {v : V} {d : List Key} (k : Okk f B H n) (e : Kp f.g H H') (r : RKt f.g B H v d) : RKt f.g B H' v d :=
  r.move fun a o h nb => ⟨e a o (fun z => nb (k.inB z)) h, nb⟩
theorem Okk.kp (k : Okk f B H n) (e : Kp f.g H H') (s : SrcOk f.g H' m) : Okk f B H' m :=
  ⟨k.s0, k.d0, k.b0, k.ow, (fun a ha => by
    by_cases hs : InS f.g a
    · obtain ⟨s1, c1, e1, hac⟩ := hs
      obtain ⟨_, _, _, h1, h2, _⟩ := s s1 c1 e1
      rcases hac with rfl | rfl
      · rw [h1]; exact fun z => nomatch z
      · rw [h2]; exact fun z => nomatch z
    · have q := k.dom a ha
      cases z : H a with
      | none => exact absurd z q
      | some o => rw [e a o hs z]; exact (fun z => nomatch z)), k.keep.trans e, s⟩
/-- behind an expression: the slots stand as they stood -/
theorem Rel.kp (R : Rel f B σ H ρ n) (e : Kp f.g H H') (s : SrcOk f.g H' m) : Rel f B σ H' ρ m :=
  ⟨R.ok.kp e s, R.len, fun i x o h1 h2 => by
    have q := R.sl i x o h1 h2
    cases x with
    | un => trivial
    | dat d =>
      obtain ⟨v, e1, r⟩ := q
      exact ⟨v, e1, r.kp R.ok e⟩
    | own ds =>
      obtain ⟨p, vs, e1, b, h0, hp, r⟩ := q
      exact ⟨p, vs, e1, b, h0, e p _ (R.ok.nS h0) hp, r.kp R.ok e⟩
    | ownt ds =>
      obtain ⟨p, vs, e1, b, h0, hp, r⟩ := q
      exact ⟨p, vs, e1, b, h0, e p _ (R.ok.nS h0) hp, r.kp R.ok e⟩
    | kt d =>
      obtain ⟨v, e1, r⟩ := q
      exact ⟨v, e1, r.kp R.ok e⟩
    | ownd ds =>
      obtain ⟨p, vs, e1, b, h0, hp, r⟩ := q
      exact ⟨p, vs, e1, b, h0, e p _ (R.ok.nS h0) hp, r.kp R.ok e⟩, R.inj⟩
theorem Rel.mono (R : Rel f B σ H ρ n) (l : m ≤ n) : Rel f B σ H ρ m := R.kp (Kp.refl H) (R.ok.src.mono l)
theorem set_cases {α : Type} {l : List α} {i j : Nat} {x y : α} (h : (l.set i x)[j]? = some y) : (i = j ∧ y = x ∧ i < l.length) ∨ (i ≠ j ∧ l[j]? = some y) := by
  by_cases e : i = j
  · subst e
    by_cases hl : i < l.length
    · rw [List.getElem?_set_self hl] at h
      exact .inl ⟨rfl, (Option.some.inj h).symm, hl⟩
    · rw [List.getElem?_eq_none (by simpa using hl)] at h
      cases h
  · rw [List.getElem?_set_ne e] at h
    exact .inr ⟨e, h⟩
/-- a name gets a datum -/
theorem Rel.set {i : Nat} {v : V} {d : D} (R : Rel f B σ H ρ n) (r : Rep f.g B H v d) : Rel f B (σ.set i (some v)) H (ρ.set i (.dat d)) n :=
  ⟨R.ok, by rw [List.length_set, List.length_set, R.len], fun j x o h1 h2 => by
    rcases set_cases h1 with ⟨e1, e2, _⟩ | ⟨e1, h1⟩
    · rcases set_cases h2 with ⟨_, e4, _⟩ | ⟨e3, _⟩
      · subst e2; subst e4
        exact ⟨v, rfl, r⟩
      · exact absurd e1 e3
    · rcases set_cases h2 with ⟨e3, _⟩ | ⟨_, h2⟩
      · exact absurd e3 e1
      · exact R.sl j x o h1 h2, fun a b p x y ne h1 o1 h2 o2 s1 => by
    rcases set_cases h1 with ⟨e1, e2, _⟩ | ⟨e1, h1⟩
    · subst e2; cases o1
    · rcases set_cases h2 with ⟨e3, e4, _⟩ | ⟨e3, h2⟩
      · subst e4; cases o2
      · rw [List.getElem?_set_ne e1] at s1
        rw [List.getElem?_set_ne e3]
        exact R.inj a b p x y ne h1 o1 h2 o2 s1⟩
end

/-! ### readings over data -/
abbrev DK := D → Prop
abbrev XKD := Err → Prop
abbrev ME := Rho → DK → XKD → Prop
abbrev MT := Rho → (Bool → Prop) → XKD → Prop
abbrev MA := Rho → (List D → Prop) → XKD → Prop
abbrev MF := List D → DK → XKD → Prop
structure DEnds where
  nx : Rho → Prop
  rt : DK
  bk : Rho → Prop
  ct : Rho → Prop
  ex : Rho → Err → Prop
abbrev MS := Rho → DEnds → Prop

/-- an error on its way -/
def ErrAt (g : Gc) (B : Addr → Prop) (H : Hp) (cls : Value) (dd : Option Addr) (x : Err) : Prop :=
  ∃ C, g.ct x.c = some C ∧ cls = .ref C ∧ ((dd = none ∧ x.fs = []) ∨ ∃ d kvs, dd = some d ∧ H d = some (.xd kvs) ∧ ¬ B d ∧ RepsF g B H kvs x.fs ∧ x.fs ≠ [])

def RD (f : FrC) (W : WX) (c : Nat) (m : ME) : TE := fun σ H Q => ∃ (B : Addr → Prop) (n : Nat) (ρ : Rho) (Q0 : DK) (W0 : XKD), Rel f B σ H ρ (n + c) ∧ m ρ Q0 W0 ∧
  (∀ d v H', Q0 d → Kp f.g H H' → SrcOk f.g H' n → Rep f.g B H' v d → Q v H') ∧ (∀ x cls dd H', W0 x → Kp f.g H H' → SrcOk f.g H' n → ErrAt f.g B H' cls dd x → W cls dd σ H')
def RT (f : FrC) (W : WX) (c : Nat) (m : MT) : TT := fun σ H Q => ∃ (B : Addr → Prop) (n : Nat) (ρ : Rho) (Q0 : Bool → Prop) (W0 : XKD), Rel f B σ H ρ (n + c) ∧ m ρ Q0 W0 ∧
  (∀ b H', Q0 b → Kp f.g H H' → SrcOk f.g H' n → Q b H') ∧ (∀ x cls dd H', W0 x → Kp f.g H H' → SrcOk f.g H' n → ErrAt f.g B H' cls dd x → W cls dd σ H')
def RA (f : FrC) (W : WX) (c : Nat) (m : MA) : TA := fun σ H Q => ∃ (B : Addr → Prop) (n : Nat) (ρ : Rho) (Q0 : List D → Prop) (W0 : XKD), Rel f B σ H ρ (n + c) ∧ m ρ Q0 W0 ∧
  (∀ ds vs H', Q0 ds → Kp f.g H H' → SrcOk f.g H' n → Reps f.g B H' vs ds → Q vs H') ∧ (∀ x cls dd H', W0 x → Kp f.g H H' → SrcOk f.g H' n → ErrAt f.g B H' cls dd x → W cls dd σ H')
/-- a new list -/
def RL (f : FrC) (W : WX) (c : Nat) (m : MA) : TE := fun σ H Q => ∃ (B : Addr → Prop) (n : Nat) (ρ : Rho) (Q0 : List D → Prop) (W0 : XKD), Rel f B σ H ρ (n + c) ∧ m ρ Q0 W0 ∧
  (∀ ds p vs H', Q0 ds → Kp f.g H H' → SrcOk f.g H' n → H p = none → H' p = some (.lst vs) → Reps f.g (fun a => B a ∨ a = p) H' vs ds → Q (.ref p) H') ∧ (∀ x cls dd H', W0 x → Kp f.g H H' → SrcOk f.g H' n → ErrAt f.g B H' cls dd x → W cls dd σ H')
def RS (f : FrC) (W : WX) (c : Nat) (m : MS) : TS := fun D σ H => ∃ (B : Addr → Prop) (n : Nat) (ρ : Rho) (E : DEnds), Rel f B σ H ρ (n + c) ∧ m ρ E ∧
  (∀ B' σ' H' ρ', E.nx ρ' → Rel f B' σ' H' ρ' n → D.nx σ' H') ∧
  (∀ d v H', E.rt d → Kp f.g f.H0 H' → SrcOk f.g H' n → Rep f.g f.RB H' v d → D.rt v H') ∧
  (∀ B' σ' H' ρ', E.bk ρ' → Rel f B' σ' H' ρ' n → D.bk σ' H') ∧
  (∀ B' σ' H' ρ', E.ct ρ' → Rel f B' σ' H' ρ' n → D.ct σ' H') ∧
  (∀ B' x cls dd σ' H' ρ', E.ex ρ' x → Rel f B' σ' H' ρ' n → ErrAt f.g B' H' cls dd x → W cls dd σ' H')

abbrev CE (f : FrC) (X : Cx) (W : WX) (c : Nat) (e : Expr) (m : ME) : Prop := PE X e (RD f W c m)
abbrev CT (f : FrC) (X : Cx) (W : WX) (c : Nat) (e : Expr) (m : MT) : Prop := PT X e (RT f W c m)
abbrev CA (f : FrC) (X : Cx) (W : WX) (c : Nat) (es : List Expr) (m : MA) : Prop := PA X es (RA f W c m)
abbrev CL (f : FrC) (X : Cx) (W : WX) (c : Nat) (e : Expr) (m : MA) : Prop := PE X e (RL f W c m)
abbrev CS (f : FrC) (X : Cx) (W : WX) (c : Nat) (s : Stmt) (m : MS) : Prop := PS X s (RS f W c m)
abbrev CB (f : FrC) (X : Cx) (W : WX) (c : Nat) (s : List Stmt) (m : MS) : Prop := PSs X s (RS f W c m)

theorem PE.imp {X : Cx} {e : Expr} {t t' : TE} (h : PE X e t) (k : ∀ σ H Q, t' σ H Q → t σ H Q) : PE X e t' := ⟨fun pins s σ H Q I q => h.run pins s σ H Q I (k σ H Q q)⟩
theorem PT.imp {X : Cx} {e : Expr} {t t' : TT} (h : PT X e t) (k : ∀ σ H Q, t' σ H Q → t σ H Q) : PT X e t' := ⟨fun pins s σ H Q I q => h.run pins s σ H Q I (k σ H Q q)⟩
theorem PA.imp {X : Cx} {e : List Expr} {t t' : TA} (h : PA X e t) (k : ∀ σ H Q, t' σ H Q → t σ H Q) : PA X e t' := ⟨fun pos pins s σ H Q I q => h.run pos pins s σ H Q I (k σ H Q q)⟩
theorem PS.imp {X : Cx} {e : Stmt} {t t' : TS} (h : PS X e t) (k : ∀ D σ H, t' D σ H → t D σ H) : PS X e t' := ⟨fun pins s σ H D I q => h.run pins s σ H D I (k D σ H q)⟩
theorem PSs.imp {X : Cx} {e : List Stmt} {t t' : TS} (h : PSs X e t) (k : ∀ D σ H, t' D σ H → t D σ H) : PSs X e t' := ⟨fun pins s σ H D I q => h.run pins s σ H D I (k D σ H q)⟩
end Hm
set_option Elab.async false
set_option linter.all false
set_option maxRecDepth 100000
set_option maxHeartbeats 2000000
namespace Hm
open PySem L2

/-! ### expressions: the parts -/
section
variable {f : FrC} {W : WX} {B : Addr → Prop} {σ : St} {H : Hp} {ρ : Rho} {m ca : Nat}
theorem rd_i {ma : ME} {Q0 : DK} {W0 : XKD} {Q : VK} (R : Rel f B σ H ρ (m + ca)) (h : ma ρ Q0 W0) (hq : ∀ x v H1, Q0 x → Kp f.g H H1 → Rel f B σ H1 ρ m → Rep f.g B H1 v x → Q v H1)
    (hw : ∀ x cls dd H', W0 x → Kp f.g H H' → SrcOk f.g H' m → ErrAt f.g B H' cls dd x → W cls dd σ H') : RD f W ca ma σ H Q := ⟨B, m, ρ, Q0, W0, R, h, fun d v H' q e s r => hq d v H' q e (R.kp e s) r, hw⟩
theorem rt_i {ma : MT} {Q0 : Bool → Prop} {W0 : XKD} {Q : Bool → Hp → Prop} (R : Rel f B σ H ρ (m + ca)) (h : ma ρ Q0 W0) (hq : ∀ x H1, Q0 x → Kp f.g H H1 → Rel f B σ H1 ρ m → Q x H1)
    (hw : ∀ x cls dd H', W0 x → Kp f.g H H' → SrcOk f.g H' m → ErrAt f.g B H' cls dd x → W cls dd σ H') : RT f W ca ma σ H Q := ⟨B, m, ρ, Q0, W0, R, h, fun d H' q e s => hq d H' q e (R.kp e s), hw⟩
theorem ra_i {ma : MA} {Q0 : List D → Prop} {W0 : XKD} {Q : List V → Hp → Prop} (R : Rel f B σ H ρ (m + ca)) (h : ma ρ Q0 W0) (hq : ∀ x v H1, Q0 x → Kp f.g H H1 → Rel f B σ H1 ρ m → Reps f.g B H1 v x → Q v H1)
    (hw : ∀ x cls dd H', W0 x → Kp f.g H H' → SrcOk f.g H' m → ErrAt f.g B H' cls dd x → W cls dd σ H') : RA f W ca ma σ H Q := ⟨B, m, ρ, Q0, W0, R, h, fun d v H' q e s r => hq d v H' q e (R.kp e s) r, hw⟩
end

/-! ### what is made of data -/
/-! what a datum is taken for -/
def asB : D → (Bool → Prop) → Prop
  | .bl b, Q => Q b
  | _, _ => False
def tru : D → (Bool → Prop) → Prop
  | .non, Q => Q false
  | .bl b, Q => Q b
  | .int i, Q => Q (i != 0)
  | .str s, Q => s.length ≤ sizeLine ∧ Q ((s.length : Int) != 0)
  | .tup xs, Q => Q (!xs.isEmpty)
  | .lst xs, Q => Q (!xs.isEmpty)
  | .dct kvs, Q => Q (!kvs.isEmpty)
  | _, _ => False
def asI : D → (Int → Prop) → Prop
  | .int i, Q => Q i
  | _, _ => False
def asL : D → (List D → Prop) → Prop
  | .lst xs, Q => Q xs
  | _, _ => False
def asT : D → (List D → Prop) → Prop
  | .tup xs, Q => Q xs
  | _, _ => False
def datOf : Option Sl → DK → Prop
  | some (.dat d), Q => Q d
  | _, _ => False
def mVar (i : Nat) : ME := fun ρ Q _ => datOf ρ[i]? Q
def mC (d : D) : ME := fun _ Q _ => Q d
def mOp (op : D → D → DK → Prop) (a b : ME) : ME := fun ρ Q W => a ρ (fun x => b ρ (fun y => op x y Q) W) W
def mUn (op : D → DK → Prop) (a : ME) : ME := fun ρ Q W => a ρ (fun x => op x Q) W
def mNil : MA := fun _ Q _ => Q []
def mCons (a : ME) (r : MA) : MA := fun ρ Q W => a ρ (fun x => r ρ (fun xs => Q (x :: xs)) W) W
def mTup (a : MA) : ME := fun ρ Q W => a ρ (fun xs => xs.length ≤ sizeLine ∧ Q (.tup xs)) W
def mLst (a : MA) : MA := fun ρ Q W => a ρ (fun xs => xs.length ≤ sizeLine ∧ Q xs) W
def mFrz (a : MA) : ME := fun ρ Q W => a ρ (fun xs => Q (.lst xs)) W
def mCall (fn : MF) (a : MA) : ME := fun ρ Q W => a ρ (fun xs => fn xs Q W) W
def mBlt (fn : List D → DK → Prop) (a : MA) : ME := fun ρ Q W => a ρ (fun xs => fn xs Q) W
def mTest (a : ME) : MT := fun ρ Q W => a ρ (fun x => asB x Q) W
def mTruth (a : ME) : MT := fun ρ Q W => a ρ (fun x => tru x Q) W
def mAnd (a b : MT) : MT := fun ρ Q W => a ρ (fun x => if x = true then b ρ Q W else Q false) W
def mOr (a b : MT) : MT := fun ρ Q W => a ρ (fun x => if x = true then Q true else b ρ Q W) W
def mNot (a : MT) : MT := fun ρ Q W => a ρ (fun x => Q (!x)) W
def mAndV (a b : ME) : ME := fun ρ Q W => a ρ (fun x => asB x fun c => if c = true then b ρ Q W else Q (.bl false)) W
def mOrV (a b : ME) : ME := fun ρ Q W => a ρ (fun x => asB x fun c => if c = true then Q (.bl true) else b ρ Q W) W
def mNotV (a : ME) : ME := fun ρ Q W => a ρ (fun x => asB x fun c => Q (.bl (!c))) W
def mIf (c : MT) (a b : ME) : ME := fun ρ Q W => c ρ (fun x => if x = true then a ρ Q W else b ρ Q W) W
def mChain (op op' : D → D → DK → Prop) (a b c : ME) : ME := fun ρ Q W => a ρ (fun x => b ρ (fun y => op x y (fun z => asB z fun k => if k = true then c ρ (fun w => op' y w (fun z' => asB z' fun k' => Q (.bl k'))) W else Q (.bl false))) W) W

section
variable {f : FrC} {X : Cx} {W : WX} {ca cb cc : Nat} {a b c : Expr} {ma mb mc : ME} {ta tb : MT}

theorem ce_var (i : Nat) {x : Str} {pos : Pos} (hN : X.N[i]? = some x := by rfl) (hv : Vis X.env.scope x := by first | exact Or.inl rfl | exact Or.inr (Or.inl rfl) | exact Or.inr (Or.inr rfl)) (hd : (x == ("__debug__" : Str)) = false := by decide)
    (hcd : (x == ("__classdict__" : Str)) = false := by decide) : CE f X W 0 (.Name x pos) (mVar i) := PE.imp (pe_var hN hv hd hcd) fun σ H Q h => by
  obtain ⟨B, n, ρ, Q0, W0, R, hm, hq, _⟩ := h
  unfold mVar at hm
  cases e : ρ[i]? with
  | none => rw [e] at hm; exact hm.elim
  | some x =>
    rw [e] at hm
    have hl : i < σ.length := by rw [R.len]; exact (List.getElem?_eq_some_iff.mp e).1
    have es : σ[i]? = some σ[i] := List.getElem?_eq_getElem hl
    have q := R.sl i x _ e es
    cases x with
    | dat d =>
      obtain ⟨v, e1, r⟩ := q
      exact ⟨v, by rw [es, e1], hq d v H hm (Kp.refl H) R.ok.src r⟩
    | un => exact hm.elim
    | own _ => exact hm.elim
    | ownt _ => exact hm.elim
    | kt _ => exact hm.elim
    | ownd _ => exact hm.elim
theorem ce_tC {v : V} {d : D} {e : Expr} (h : PE X e (tC v)) (r : ∀ B H, Rep f.g B H v d) : CE f X W 0 e (mC d) := PE.imp h fun σ H Q h => by
  obtain ⟨B, n, ρ, Q0, W0, R, hm, hq, _⟩ := h
  exact hq d v H hm (Kp.refl H) R.ok.src (r B H)
theorem ce_int {i j pos} : CE f X W 0 (.Constant (.int i) j pos) (mC (.int i)) := ce_tC pe_int fun _ _ => .int i
theorem ce_bl {i j pos} : CE f X W 0 (.Constant (.bool i) j pos) (mC (.bl i)) := ce_tC pe_bl fun _ _ => .bl i
theorem ce_non {j pos} : CE f X W 0 (.Constant .none j pos) (mC .non) := ce_tC pe_non fun _ _ => .non
theorem ce_str {x j pos} : CE f X W 0 (.Constant (.str x) j pos) (mC (.str x)) := ce_tC pe_str fun _ _ => .str x

/-- a two-place operation: over values r, over data op -/
def OpD (K : PySem.W.Frag) (r : R2) (op : D → D → DK → Prop) : Prop := ∀ (g : Gc) (B : Addr → Prop) (H : Hp) (vx vy : V) (x y : D) (Q0 : DK) (Q : VK), g.K = K → (∀ a, B a → H a ≠ none) → Rep g B H vx x → Rep g B H vy y → op x y Q0 →
  (∀ d v H', Q0 d → Gw H H' → Rep g B H' v d → Q v H') → r vx vy H Q
def UnD (K : PySem.W.Frag) (r : V → Hp → VK → Prop) (op : D → DK → Prop) : Prop := ∀ (g : Gc) (B : Addr → Prop) (H : Hp) (vx : V) (x : D) (Q0 : DK) (Q : VK), g.K = K → (∀ a, B a → H a ≠ none) → Rep g B H vx x → op x Q0 →
  (∀ d v H', Q0 d → Gw H H' → Rep g B H' v d → Q v H') → r vx H Q
def CallD (K : PySem.W.Frag) (r : List V → Hp → VK → Prop) (op : List D → DK → Prop) : Prop := ∀ (g : Gc) (B : Addr → Prop) (H : Hp) (vs : List V) (xs : List D) (Q0 : DK) (Q : VK), g.K = K → (∀ a, B a → H a ≠ none) → Reps g B H vs xs → op xs Q0 →
  (∀ d v H', Q0 d → Gw H H' → Rep g B H' v d → Q v H') → r vs H Q
theorem OpR.or {fn : Value → Value → Sem Value} {r r' : R2} (h : OpR X fn r) (h' : OpR X fn r') : OpR X fn (fun x y H Q => r x y H Q ∨ r' x y H Q) := by
  intro pins s σ H x y v u Q I rx ry q
  rcases q with q | q
  · exact h pins s σ H x y v u Q I rx ry q
  · exact h' pins s σ H x y v u Q I rx ry q
theorem CallR.or {fn : Value} {r r' : List V → Hp → VK → Prop} (h : CallR X fn r) (h' : CallR X fn r') : CallR X fn (fun xs H Q => r xs H Q ∨ r' xs H Q) := by
  intro pins s σ H xs us Q I rx q
  rcases q with q | q
  · exact h pins s σ H xs us Q I rx q
  · exact h' pins s σ H xs us Q I rx q

theorem rd_op {op : D → D → DK → Prop} {r : R2} (hK : f.g.K = X.K) (hd : OpD X.K r op) {σ : St} {H : Hp} {Q : VK} (h : RD f W (ca + cb) (mOp op ma mb) σ H Q) : tOp r (RD f W ca ma) (RD f W cb mb) σ H Q := by
  obtain ⟨B, n, ρ, Q0, W0, R, hm, hq, hw⟩ := h
  refine rd_i (m := n + cb) (R.mono (by omega)) hm (fun x vx H1 h1 e1 R1 r1 => ?_) (fun x cls dd H' q e s er => hw x cls dd H' q e (s.mono (by omega)) er)
  refine rd_i (m := n) R1 h1 (fun y vy H2 h2 e2 R2 r2 => ?_) (fun x cls dd H' q e s er => hw x cls dd H' q (e1.trans e) s er)
  exact hd f.g B H2 vx vy x y Q0 Q hK R2.ok.dom (r1.kp R1.ok e2) r2 h2 fun d v H' q gw r => hq d v H' q ((e1.trans e2).trans gw.kp) (gw.src R2.ok.src) r
theorem ce_op {o : Operator} {op : D → D → DK → Prop} {r : R2} {pos : Pos} (hK : f.g.K = X.K) (ho : OpR X (binaryOp o) r) (hd : OpD X.K r op) (ha : CE f X W ca a ma) (hb : CE f X W cb b mb) : CE f X W (ca + cb) (.BinOp a o b pos) (mOp op ma mb) :=
  PE.imp (pe_op ho ha hb) fun _ _ _ h => rd_op hK hd h
theorem ce_un {o : UnaryOp} {op : D → DK → Prop} {r : V → Hp → VK → Prop} {pos : Pos} (hK : f.g.K = X.K) (ho : UnR X (unaryOp o) r) (hd : UnD X.K r op) (ha : CE f X W ca a ma) : CE f X W ca (.UnaryOp o a pos) (mUn op ma) :=
  PE.imp (pe_un ho ha) fun σ H Q h => by
    obtain ⟨B, n, ρ, Q0, W0, R, hm, hq, hw⟩ := h
    refine rd_i (m := n) R hm (fun x vx H1 h1 e1 R1 r1 => ?_) hw
    exact hd f.g B H1 vx x Q0 Q hK R1.ok.dom r1 h1 fun d v H' q gw r => hq d v H' q (e1.trans gw.kp) (gw.src R1.ok.src) r
theorem ce_cmp {o : CmpOp} {op : D → D → DK → Prop} {r : R2} {pos : Pos} (hK : f.g.K = X.K) (ho : OpR X (compareOp o) r) (hd : OpD X.K r op) (ha : CE f X W ca a ma) (hb : CE f X W cb b mb) (hm : behindInMarks o b = false := by first | exact nomark _ | with_unfolding_all rfl) :
    CE f X W (ca + cb) (.Compare a [o] [b] pos) (mOp op ma mb) := PE.imp (pe_cmpR ho ha hb hm) fun _ _ _ h => rd_op hK hd h
theorem rt_test {σ : St} {H : Hp} {Q : Bool → Hp → Prop} {t : TE} (k : ∀ Q, RD f W ca ma σ H Q → t σ H Q) (h : RT f W ca (mTest ma) σ H Q) : tTest t σ H Q := by
  obtain ⟨B, n, ρ, Q0, W0, R, hm, hq, hw⟩ := h
  refine k _ ⟨B, n, ρ, _, W0, R, hm, fun d v H' q e s r => ?_, hw⟩
  cases r with
  | bl b => exact ⟨b, rfl, hq b H' q e s⟩
  | _ => exact q.elim
theorem ct_cmp {o : CmpOp} {op : D → D → DK → Prop} {r : R2} {pos : Pos} (hK : f.g.K = X.K) (ho : OpR X (compareOp o) r) (hd : OpD X.K r op) (ha : CE f X W ca a ma) (hb : CE f X W cb b mb) (hm : behindInMarks o b = false := by first | exact nomark _ | with_unfolding_all rfl) :
    CT f X W (ca + cb) (.Compare a [o] [b] pos) (mTest (mOp op ma mb)) := PT.imp (pt_cmpR ho ha hb hm) fun _ _ _ h => rt_test (fun _ q => rd_op hK hd q) h
theorem rd_chain {op op' : D → D → DK → Prop} {r r' : R2} (hK : f.g.K = X.K) (hd : OpD X.K r op) (hd' : OpD X.K r' op') {σ : St} {H : Hp} {Q : VK} (h : RD f W (ca + cb + cc) (mChain op op' ma mb mc) σ H Q) : tChain r r' (RD f W ca ma) (RD f W cb mb) (RD f W cc mc) σ H Q := by
  obtain ⟨B, n, ρ, Q0, W0, R, hm, hq, hw⟩ := h
  refine rd_i (m := n + cc + cb) (R.mono (by omega)) hm (fun x vx H1 h1 e1 R1 r1 => ?_) (fun x cls dd H' q e s er => hw x cls dd H' q e (s.mono (by omega)) er)
  refine rd_i (m := n + cc) R1 h1 (fun y vy H2 h2 e2 R2 r2 => ?_) (fun x cls dd H' q e s er => hw x cls dd H' q (e1.trans e) (s.mono (by omega)) er)
  refine hd f.g B H2 vx vy x y _ _ hK R2.ok.dom (r1.kp R1.ok e2) r2 h2 fun d v H3 q gw r => ?_
  have e3 := (e1.trans e2).trans (gw.kp (g := f.g))
  have R3 : Rel f B σ H3 ρ (n + cc) := R2.kp gw.kp (gw.src R2.ok.src)
  cases r with
  | bl k =>
    refine ⟨k, rfl, ?_⟩
    cases k with
    | false =>
      rw [if_neg Bool.false_ne_true]
      exact hq _ _ H3 q e3 (R3.ok.src.mono (by omega)) (.bl false)
    | true =>
      rw [if_pos rfl]
      refine rd_i (m := n) R3 q (fun z vz H4 h4 e4 R4 r4 => ?_) (fun x cls dd H' q e s er => hw x cls dd H' q (e3.trans e) s er)
      refine hd' f.g B H4 vy vz y z _ _ hK R4.ok.dom ((r2.kp R2.ok gw.kp).kp R3.ok e4) r4 h4 fun d v H5 q5 gw5 r5 => ?_
      cases r5 with
      | bl k' => exact hq _ _ H5 q5 ((e3.trans e4).trans gw5.kp) (gw5.src R4.ok.src) (.bl k')
      | _ => exact q5.elim
  | _ => exact q.elim
theorem ct_chain {o o' : CmpOp} {op op' : D → D → DK → Prop} {r r' : R2} {pos : Pos} (hK : f.g.K = X.K) (ho : OpR X (compareOp o) r) (hd : OpD X.K r op) (ho' : OpR X (compareOp o') r') (hd' : OpD X.K r' op') (ha : CE f X W ca a ma) (hb : CE f X W cb b mb) (hc : CE f X W cc c mc)
    (hm : lastMarks [o, o'] [b, c] = false := by with_unfolding_all rfl) : CT f X W (ca + cb + cc) (.Compare a [o, o'] [b, c] pos) (mTest (mChain op op' ma mb mc)) :=
  PT.imp (pt_chain ho ho' ha hb hc hm) fun _ _ _ h => rt_test (fun _ q => rd_chain hK hd hd' q) h
theorem ce_chain {o o' : CmpOp} {op op' : D → D → DK → Prop} {r r' : R2} {pos : Pos} (hK : f.g.K = X.K) (ho : OpR X (compareOp o) r) (hd : OpD X.K r op) (ho' : OpR X (compareOp o') r') (hd' : OpD X.K r' op') (ha : CE f X W ca a ma) (hb : CE f X W cb b mb) (hc : CE f X W cc c mc)
    (hm : lastMarks [o, o'] [b, c] = false := by with_unfolding_all rfl) : CE f X W (ca + cb + cc) (.Compare a [o, o'] [b, c] pos) (mChain op op' ma mb mc) :=
  PE.imp (pe_chain ho ho' ha hb hc hm) fun _ _ _ h => rd_chain hK hd hd' h
/-! tests -/
theorem ct_val {e : Expr} {me : ME} (h : CE f X W ca e me) (he : ∀ whole, isTrue e X.env whole = (do let v ← whole; standAt e.pos; holding [v] (truthy v)) := by intro _; rfl) : CT f X W ca e (mTest me) :=
  PT.imp (pt_val h he) fun _ _ _ h => rt_test (fun _ q => q) h
theorem ct_truth {e : Expr} {me : ME} (hK : f.g.K = X.K) (h : CE f X W ca e me) (he : ∀ whole, isTrue e X.env whole = (do let v ← whole; standAt e.pos; holding [v] (truthy v)) := by intro _; rfl) : CT f X W ca e (mTruth me) :=
  PT.imp (pt_truth h he) fun σ H Q h => by
    obtain ⟨B, n, ρ, Q0, W0, R, hm, hq, hw⟩ := h
    refine ⟨B, n, ρ, _, W0, R, hm, fun d v H' q e s r => ?_, hw⟩
    cases r with
    | non => exact ⟨_, rfl, hq _ H' q e s⟩
    | bl b => exact ⟨_, rfl, hq _ H' q e s⟩
    | int b => exact ⟨_, rfl, hq _ H' q e s⟩
    | str b => exact ⟨_, ⟨q.1, rfl⟩, hq _ H' q.2 e s⟩
    | tup h1 h2 h3 => exact ⟨_, .inr (.inl ⟨_, .inl (.inl h1), rfl⟩), hq _ H' (by cases h3 <;> exact q) e s⟩
    | wtup h1 h3 => exact ⟨_, .inr (.inl ⟨_, .inr (hK ▸ h1), rfl⟩), hq _ H' (by cases h3 <;> exact q) e s⟩
    | lst h1 h2 h3 => exact ⟨_, .inl ⟨_, .inl (.inl h1), rfl⟩, hq _ H' (by cases h3 <;> exact q) e s⟩
    | dct h1 h2 h3 => exact ⟨_, .inr (.inr ⟨_, h1, rfl⟩), hq _ H' (by cases h3 <;> exact q) e s⟩
    | exc0 => exact q.elim
    | exc1 => exact q.elim
    | src => exact q.elim
    | obj => exact q.elim
end
end Hm
set_option Elab.async false
set_option linter.all false
set_option maxRecDepth 100000
set_option maxHeartbeats 2000000
namespace Hm
open PySem L2

section
variable {f : FrC} {X : Cx} {W : WX} {ca cb cc : Nat} {a b c : Expr} {es : List Expr} {ma mb mc : ME} {ta tb tc : MT} {mas : MA} {rest : List Expr} {pos : Pos}
/-! and, or, not -/
theorem cw_and1 (ha : CT f X W ca a ta) : PW X (.BoolOp .And [a] pos) (RT f W ca ta) := pw_and1 ha
theorem cw_or1 (ha : CT f X W ca a ta) : PW X (.BoolOp .Or [a] pos) (RT f W ca ta) := pw_or1 ha
theorem PW.imp {e : Expr} {t t' : TT} (h : PW X e t) (k : ∀ σ H Q, t' σ H Q → t σ H Q) : PW X e t' := ⟨fun wh pins s σ H Q I q => h.run wh pins s σ H Q I (k σ H Q q)⟩
theorem cw_and (ha : CT f X W ca a ta) (hb : PW X (.BoolOp .And (b :: rest) pos) (RT f W cb tb)) : PW X (.BoolOp .And (a :: b :: rest) pos) (RT f W (ca + cb) (mAnd ta tb)) :=
  PW.imp (pw_and ha hb) fun σ H Q h => by
    obtain ⟨B, n, ρ, Q0, W0, R, hm, hq, hw⟩ := h
    refine rt_i (m := n + cb) (R.mono (by omega)) hm (fun x H1 h1 e1 R1 => ?_) (fun x cls dd H' q e s er => hw x cls dd H' q e (s.mono (by omega)) er)
    cases x with
    | true =>
      rw [if_pos rfl] at h1 ⊢
      exact rt_i (m := n) R1 h1 (fun y H2 h2 e2 R2 => hq y H2 h2 (e1.trans e2) R2.ok.src) (fun x cls dd H' q e s er => hw x cls dd H' q (e1.trans e) s er)
    | false =>
      rw [if_neg Bool.false_ne_true] at h1 ⊢
      exact hq false H1 h1 e1 (R1.ok.src.mono (by omega))
theorem cw_or (ha : CT f X W ca a ta) (hb : PW X (.BoolOp .Or (b :: rest) pos) (RT f W cb tb)) : PW X (.BoolOp .Or (a :: b :: rest) pos) (RT f W (ca + cb) (mOr ta tb)) :=
  PW.imp (pw_or ha hb) fun σ H Q h => by
    obtain ⟨B, n, ρ, Q0, W0, R, hm, hq, hw⟩ := h
    refine rt_i (m := n + cb) (R.mono (by omega)) hm (fun x H1 h1 e1 R1 => ?_) (fun x cls dd H' q e s er => hw x cls dd H' q e (s.mono (by omega)) er)
    cases x with
    | false =>
      rw [if_neg Bool.false_ne_true] at h1 ⊢
      exact rt_i (m := n) R1 h1 (fun y H2 h2 e2 R2 => hq y H2 h2 (e1.trans e2) R2.ok.src) (fun x cls dd H' q e s er => hw x cls dd H' q (e1.trans e) s er)
    | true =>
      rw [if_pos rfl] at h1 ⊢
      exact hq true H1 h1 e1 (R1.ok.src.mono (by omega))
theorem ct_w {e : Expr} (h : PW X e (RT f W ca ta)) : CT f X W ca e ta := h.pt
theorem ct_not (ha : CT f X W ca a ta) : CT f X W ca (.UnaryOp .Not a pos) (mNot ta) := PT.imp (pt_not ha) fun σ H Q h => by
  obtain ⟨B, n, ρ, Q0, W0, R, hm, hq, hw⟩ := h
  exact ⟨B, n, ρ, _, W0, R, hm, fun d H' q e s => hq _ H' q e s, hw⟩
theorem ce_one {o} (h : CE f X W ca a ma) : CE f X W ca (.BoolOp o [a] pos) ma := pe_one h
theorem ce_and (ha : CE f X W ca a ma) (hb : CE f X W cb (.BoolOp .And (b :: rest) pos) mb) : CE f X W (ca + cb) (.BoolOp .And (a :: b :: rest) pos) (mAndV ma mb) :=
  PE.imp (pe_and ha hb) fun σ H Q h => by
    obtain ⟨B, n, ρ, Q0, W0, R, hm, hq, hw⟩ := h
    refine rd_i (m := n + cb) (R.mono (by omega)) hm (fun x v H1 h1 e1 R1 r1 => ?_) (fun x cls dd H' q e s er => hw x cls dd H' q e (s.mono (by omega)) er)
    cases r1 with
    | bl k =>
      refine ⟨k, rfl, ?_⟩
      have h1' : if k = true then mb ρ Q0 W0 else Q0 (.bl false) := h1
      cases k with
      | true =>
        rw [if_pos rfl] at h1' ⊢
        exact rd_i (m := n) R1 h1' (fun y v H2 h2 e2 R2 r2 => hq y v H2 h2 (e1.trans e2) R2.ok.src r2) (fun x cls dd H' q e s er => hw x cls dd H' q (e1.trans e) s er)
      | false =>
        rw [if_neg Bool.false_ne_true] at h1' ⊢
        exact hq _ _ H1 h1' e1 (R1.ok.src.mono (by omega)) (.bl false)
    | _ => exact h1.elim
theorem ce_or (ha : CE f X W ca a ma) (hb : CE f X W cb (.BoolOp .Or (b :: rest) pos) mb) : CE f X W (ca + cb) (.BoolOp .Or (a :: b :: rest) pos) (mOrV ma mb) :=
  PE.imp (pe_or ha hb) fun σ H Q h => by
    obtain ⟨B, n, ρ, Q0, W0, R, hm, hq, hw⟩ := h
    refine rd_i (m := n + cb) (R.mono (by omega)) hm (fun x v H1 h1 e1 R1 r1 => ?_) (fun x cls dd H' q e s er => hw x cls dd H' q e (s.mono (by omega)) er)
    cases r1 with
    | bl k =>
      refine ⟨k, rfl, ?_⟩
      have h1' : if k = true then Q0 (.bl true) else mb ρ Q0 W0 := h1
      cases k with
      | false =>
        rw [if_neg Bool.false_ne_true] at h1' ⊢
        exact rd_i (m := n) R1 h1' (fun y v H2 h2 e2 R2 r2 => hq y v H2 h2 (e1.trans e2) R2.ok.src r2) (fun x cls dd H' q e s er => hw x cls dd H' q (e1.trans e) s er)
      | true =>
        rw [if_pos rfl] at h1' ⊢
        exact hq _ _ H1 h1' e1 (R1.ok.src.mono (by omega)) (.bl true)
    | _ => exact h1.elim
theorem ce_not (ha : CE f X W ca a ma) : CE f X W ca (.UnaryOp .Not a pos) (mNotV ma) := PE.imp (pe_not ha) fun σ H Q h => by
  obtain ⟨B, n, ρ, Q0, W0, R, hm, hq, hw⟩ := h
  refine rd_i (m := n) R hm (fun x v H1 h1 e1 R1 r1 => ?_) hw
  cases r1 with
  | bl k => exact ⟨k, rfl, hq _ _ H1 h1 e1 R1.ok.src (.bl _)⟩
  | _ => exact h1.elim
theorem ce_if {t : Expr} (ht : CT f X W cc t tc) (ha : CE f X W ca a ma) (hb : CE f X W cb b mb) : CE f X W (cc + (ca + cb)) (.IfExp t a b pos) (mIf tc ma mb) :=
  PE.imp (pe_ifExp ht ha hb) fun σ H Q h => by
    obtain ⟨B, n, ρ, Q0, W0, R, hm, hq, hw⟩ := h
    refine rt_i (m := n + (ca + cb)) (R.mono (by omega)) hm (fun x H1 h1 e1 R1 => ?_) (fun x cls dd H' q e s er => hw x cls dd H' q e (s.mono (by omega)) er)
    cases x with
    | true =>
      rw [if_pos rfl] at h1 ⊢
      exact rd_i (m := n) (R1.mono (by omega)) h1 (fun y v H2 h2 e2 R2 r2 => hq y v H2 h2 (e1.trans e2) R2.ok.src r2) (fun x cls dd H' q e s er => hw x cls dd H' q (e1.trans e) s er)
    | false =>
      rw [if_neg Bool.false_ne_true] at h1 ⊢
      exact rd_i (m := n) (R1.mono (by omega)) h1 (fun y v H2 h2 e2 R2 r2 => hq y v H2 h2 (e1.trans e2) R2.ok.src r2) (fun x cls dd H' q e s er => hw x cls dd H' q (e1.trans e) s er)
/-! arguments, tuples, lists -/
theorem ca_nil : CA f X W 0 [] mNil := PA.imp pa_nil fun σ H Q h => by
  obtain ⟨B, n, ρ, Q0, W0, R, hm, hq, hw⟩ := h
  exact hq [] [] H hm (Kp.refl H) R.ok.src .nil
theorem ca_cons (ha : CE f X W ca a ma) (hr : CA f X W cb es mas) (hs : starEach (a :: es) X.env = (false, eval a X.env) :: starEach es X.env := by rfl) : CA f X W (ca + cb) (a :: es) (mCons ma mas) :=
  PA.imp (pa_cons ha hr hs) fun σ H Q h => by
    obtain ⟨B, n, ρ, Q0, W0, R, hm, hq, hw⟩ := h
    refine rd_i (m := n + cb) (R.mono (by omega)) hm (fun x v H1 h1 e1 R1 r1 => ?_) (fun x cls dd H' q e s er => hw x cls dd H' q e (s.mono (by omega)) er)
    exact ra_i (m := n) R1 h1 (fun y v2 H2 h2 e2 R2 r2 => hq _ _ H2 h2 (e1.trans e2) R2.ok.src (.cons (r1.kp R1.ok e2) r2)) (fun x cls dd H' q e s er => hw x cls dd H' q (e1.trans e) s er)
theorem Rep.grow {g : Gc} {B : Addr → Prop} {H H' : Hp} {v : V} {d : D} (e : Gw H H') (r : Rep g B H v d) : Rep g B H' v d := r.move fun a o h nb => ⟨e a o h, nb⟩
theorem Reps.grow {g : Gc} {B : Addr → Prop} {H H' : Hp} {v : List V} {d : List D} (e : Gw H H') (r : Reps g B H v d) : Reps g B H' v d := r.move fun a o h nb => ⟨e a o h, nb⟩
theorem RepsK.grow {g : Gc} {B : Addr → Prop} {H H' : Hp} {v : List (Key × V)} {d : List (Key × D)} (e : Gw H H') (r : RepsK g B H v d) : RepsK g B H' v d := r.move fun a o h nb => ⟨e a o h, nb⟩
theorem RepsT.grow {g : Gc} {B : Addr → Prop} {H H' : Hp} {v : List (List Key × V)} {d : List (List Key × D)} (e : Gw H H') (r : RepsT g B H v d) : RepsT g B H' v d := r.move fun a o h nb => ⟨e a o h, nb⟩
theorem RKt.grow {g : Gc} {B : Addr → Prop} {H H' : Hp} {v : V} {d : List Key} (e : Gw H H') (r : RKt g B H v d) : RKt g B H' v d := r.move fun a o h nb => ⟨e a o h, nb⟩
theorem nB {B : Addr → Prop} {H : Hp} {p : Addr} (dom : ∀ a, B a → H a ≠ none) (h : H p = none) : ¬ B p := fun z => dom p z h
theorem ce_tup {x1} (h : CA f X W ca es mas) : CE f X W ca (.Tuple es x1 pos) (mTup mas) := PE.imp (pe_tup h) fun σ H Q h => by
  obtain ⟨B, n, ρ, Q0, W0, R, hm, hq, hw⟩ := h
  refine ra_i (m := n) R hm (fun ds vs H1 h1 e1 R1 r1 => ⟨by rw [r1.length]; exact h1.1, fun p hp => ?_⟩) hw
  have gw : Gw H1 (upd H1 p (.tup vs)) := Gw.new hp
  exact hq _ _ _ h1.2 (e1.trans gw.kp) (gw.src R1.ok.src) (.tup upd_same (nB R1.ok.dom hp) (r1.grow gw))
theorem Reps.avoid {g : Gc} {B : Addr → Prop} {H : Hp} {p : Addr} {v : List V} {d : List D} (hp : H p = none) (r : Reps g B H v d) : Reps g (fun a => B a ∨ a = p) H v d :=
  r.move fun a o h nb => ⟨h, fun z => z.elim nb (ne_of_none h hp)⟩
theorem Rep.avoid {g : Gc} {B : Addr → Prop} {H : Hp} {p : Addr} {v : V} {d : D} (hp : H p = none) (r : Rep g B H v d) : Rep g (fun a => B a ∨ a = p) H v d :=
  r.move fun a o h nb => ⟨h, fun z => z.elim nb (ne_of_none h hp)⟩
theorem Reps.free {g : Gc} {B : Addr → Prop} {H : Hp} {p : Addr} {v : List V} {d : List D} (r : Reps g (fun a => B a ∨ a = p) H v d) : Reps g B H v d := r.move fun a o h nb => ⟨h, fun z => nb (.inl z)⟩
/-- a new list as a datum -/
theorem ce_frz {e : Expr} (h : CL f X W ca e mas) : CE f X W ca e (mFrz mas) := PE.imp h fun σ H Q h => by
  obtain ⟨B, n, ρ, Q0, W0, R, hm, hq, hw⟩ := h
  refine ⟨B, n, ρ, _, W0, R, hm, fun ds p vs H' q e s hp h1 r => ?_, hw⟩
  exact hq _ _ H' q e s (.lst h1 (nB R.ok.dom hp) r.free)
theorem cl_lst (h : CA f X W ca es mas) : CL f X W ca (.List es pos) (mLst mas) := PE.imp (pe_lst h) fun σ H Q h => by
  obtain ⟨B, n, ρ, Q0, W0, R, hm, hq, hw⟩ := h
  refine ra_i (m := n) R hm (fun ds vs H1 h1 e1 R1 r1 => ⟨by rw [r1.length]; exact h1.1, fun p hp => ?_⟩) hw
  have gw : Gw H1 (upd H1 p (.lst vs)) := Gw.new hp
  have hp0 : H p = none := by
    cases z : H p with
    | none => rfl
    | some o =>
      by_cases hs : InS f.g p
      · exact absurd hp (R1.ok.dom p (R1.ok.inB hs))
      · rw [e1 p o hs z] at hp; cases hp
  exact hq _ _ _ _ h1.2 (e1.trans gw.kp) (gw.src R1.ok.src) hp0 upd_same ((r1.avoid hp).grow gw)
theorem ce_lst (h : CA f X W ca es mas) : CE f X W ca (.List es pos) (mFrz (mLst mas)) := ce_frz (cl_lst h)
/-! calls -/
theorem ce_blt {id : String} {x : Str} {p : Pos} {r : List V → Hp → VK → Prop} {op : List D → DK → Prop} (hK : f.g.K = X.K) (hc : CallR X (.builtin id) r) (hd : CallD X.K r op) (hg : Gl X x) (hm : X.mg x = none) (hv : bootBuiltins x = some (.builtin id)) (ha : CA f X W ca (a :: es) mas)
    (hn : x ≠ "__name__" := by decide) (hdb : (x == ("__debug__" : Str)) = false := by decide)
    (he : starEach (a :: es) X.env = (false, eval a X.env) :: starEach es X.env := by rfl) (hpl : (backTo pos (starEach es X.env)).any (·.1) = false := by rfl) : CE f X W ca (.Call (.Name x p) (a :: es) [] pos) (mBlt op mas) :=
  PE.imp (pe_callB hc hg hm hv ha hn hdb he hpl) fun σ H Q h => by
    obtain ⟨B, n, ρ, Q0, W0, R, hm, hq, hw⟩ := h
    refine ra_i (m := n) R hm (fun ds vs H1 h1 e1 R1 r1 => ?_) hw
    exact hd f.g B H1 vs ds Q0 Q hK R1.ok.dom r1 h1 fun d v H' q gw r => hq d v H' q (e1.trans gw.kp) (gw.src R1.ok.src) r
theorem ce_blty {T : String} {x : Str} {p : Pos} {r : List V → Hp → VK → Prop} {op : List D → DK → Prop} (hK : f.g.K = X.K) (hc : CallR X (.type T) r) (hd : CallD X.K r op) (hg : Gl X x) (hm : X.mg x = none) (hv : bootBuiltins x = some (.type T)) (ha : CA f X W ca (a :: es) mas)
    (hn : x ≠ "__name__" := by decide) (hdb : (x == ("__debug__" : Str)) = false := by decide)
    (he : starEach (a :: es) X.env = (false, eval a X.env) :: starEach es X.env := by rfl) (hpl : (backTo pos (starEach es X.env)).any (·.1) = false := by rfl) : CE f X W ca (.Call (.Name x p) (a :: es) [] pos) (mBlt op mas) :=
  PE.imp (pe_callTy hc hg hm hv ha hn hdb he hpl) fun σ H Q h => by
    obtain ⟨B, n, ρ, Q0, W0, R, hm, hq, hw⟩ := h
    refine ra_i (m := n) R hm (fun ds vs H1 h1 e1 R1 r1 => ?_) hw
    exact hd f.g B H1 vs ds Q0 Q hK R1.ok.dom r1 h1 fun d v H' q gw r => hq d v H' q (e1.trans gw.kp) (gw.src R1.ok.src) r

/-- a def's promise over data; it draws at most c times -/
def spOf (K : PySem.W.Frag) (ct : Str → Option Addr) (c : Nat) (m : MF) : Sp := fun vs H Q E => ∃ (src : Option (Addr × Addr)) (B : Addr → Prop) (n : Nat) (ds : List D) (Q0 : DK) (W0 : XKD),
  (∀ a, InS ⟨K, ct, src⟩ a → B a) ∧ (∀ a, B a → H a ≠ none) ∧ SrcOk ⟨K, ct, src⟩ H (n + c) ∧ Reps ⟨K, ct, src⟩ B H vs ds ∧ m ds Q0 W0 ∧
  (∀ d v H', Q0 d → Kp ⟨K, ct, src⟩ H H' → SrcOk ⟨K, ct, src⟩ H' n → Rep ⟨K, ct, src⟩ B H' v d → Q v H') ∧
  (∀ x cls dd H', W0 x → Kp ⟨K, ct, src⟩ H H' → SrcOk ⟨K, ct, src⟩ H' n → ErrAt ⟨K, ct, src⟩ B H' cls dd x → E cls dd H')
abbrev FnD (P : Program) (w : World) (K : PySem.W.Frag) (mg : Str → Option Value) (base : Heap) (ct : Str → Option Addr) (k : Nat) (f : Addr) (fd : FuncData) (ps : List Str) (c : Nat) (m : MF) : Prop := FnOk P w K mg base (L2.CX P w) k f fd ps (spOf K ct c m)
theorem ce_call {k c : Nat} {fa : Addr} {fd : FuncData} {ps : List Str} {m : MF} {x : Str} {p : Pos} {ct : Str → Option Addr} (F : FnD X.prog X.w X.K X.mg X.base ct k fa fd ps c m) (hct : f.g.ct = ct) (hK : f.g.K = X.K) (tk : Takes X W) (hr : Room k X.A) (hg : Gl X x) (hm : X.mg x = some (.ref fa)) (hk : PySem.W.keepIn X.K (.ref fa) = true) (hb : Binds X.K fd ps [])
    (ha : CA f X W ca (a :: es) mas) (hdb : (x == ("__debug__" : Str)) = false := by decide) (he : starEach (a :: es) X.env = (false, eval a X.env) :: starEach es X.env := by rfl) (hpl : (backTo pos (starEach es X.env)).any (·.1) = false := by rfl) :
    CE f X W (ca + c) (.Call (.Name x p) (a :: es) [] pos) (mCall m mas) := PE.imp (pe_callS F hr hg hm hk hb (fun σ => passAt tk σ) ha hdb he hpl) fun σ H Q h => by
  obtain ⟨B, n, ρ, Q0, W0, R, hm, hq, hw⟩ := h
  refine ra_i (m := n + c) (R.mono (by omega)) hm (fun ds vs H1 h1 e1 R1 r1 => ?_) (fun x cls dd H' q e s er => hw x cls dd H' q e (s.mono (by omega)) er)
  obtain ⟨g, B0, H0⟩ := f
  obtain ⟨K, ct, src⟩ := g
  cases hK
  cases hct
  exact ⟨src, B, n, ds, Q0, W0, fun a ha => R1.ok.inB ha, R1.ok.dom, R1.ok.src, r1, h1, fun d v H' q e s r => hq d v H' q (e1.trans e) s r, fun x cls dd H' q e s er => hw x cls dd H' q (e1.trans e) s er⟩
theorem ce_call0 {k c : Nat} {fa : Addr} {fd : FuncData} {ps : List Str} {m : MF} {x : Str} {p : Pos} {ct : Str → Option Addr} (F : FnD X.prog X.w X.K X.mg X.base ct k fa fd ps c m) (hct : f.g.ct = ct) (hK : f.g.K = X.K) (tk : Takes X W) (hr : Room k X.A) (hg : Gl X x) (hm : X.mg x = some (.ref fa)) (hk : PySem.W.keepIn X.K (.ref fa) = true) (hb : Binds X.K fd ps [])
    (hdb : (x == ("__debug__" : Str)) = false := by decide) : CE f X W c (.Call (.Name x p) [] [] pos) (mCall m mNil) := by
  refine ⟨fun pins s σ H Q I h => ?_⟩
  refine wpAny_Call_Name_kw (ld_glob I hg hm ?_ hdb)
  refine PySem.W.callWith_K0 I.kIn hk (run_fnS (us := []) (vs := []) F hr hb (passAt tk σ) I .nil ?_)
  obtain ⟨B, n, ρ, Q0, W0, R, hm, hq, hw⟩ := h
  obtain ⟨g, B0, H0⟩ := f
  obtain ⟨K, ct, src⟩ := g
  cases hK
  cases hct
  exact ⟨src, B, n, [], Q0, W0, fun a ha => R.ok.inB ha, R.ok.dom, R.ok.src, .nil, hm, hq, hw⟩
/-- the objects of N are lists and dicts that stood at the def's beginning -/
def HO.isL : HO → Prop
  | .lst _ => True
  | .dK _ => True
  | _ => False
def NOk (f : FrC) : Prop := ∀ a, f.N a → ¬ InS f.g a ∧ ∃ o, f.H0 a = some o ∧ HO.isL o
structure FrC.Like (f' f : FrC) : Prop where
  g : f'.g = f.g
  N : f'.N = f.N
  nw : NOk f → NOk f'
theorem hk2 {f f' : FrC} {K : PySem.W.Frag} (h : f'.Like f) (hK : f.g.K = K) : f'.g.K = K := by rw [h.g]; exact hK
theorem hc2 {f f' : FrC} {ct : Str → Option Addr} (h : f'.Like f) (hK : f.g.ct = ct) : f'.g.ct = ct := by rw [h.g]; exact hK
theorem hn2 {f f' : FrC} (h : f'.Like f) (hN : f.N = fun _ => False) : f'.N = fun _ => False := by rw [h.N]; exact hN
/-! subscripts -/
theorem ce_ix {r : R2} {op : D → D → DK → Prop} (hK : f.g.K = X.K) (hr : IxR X r) (hd : OpD X.K r op) (ha : CE f X W ca a ma) (hb : CE f X W cb b mb) (hs : PlainIx b := by exact fun _ _ => rfl) : CE f X W (ca + cb) (.Subscript a b pos) (mOp op ma mb) :=
  PE.imp (pe_ix hr ha hb hs) fun _ _ _ h => rd_op hK hd h
end
end Hm
set_option Elab.async false
set_option linter.all false
set_option maxRecDepth 100000
set_option maxHeartbeats 2000000
namespace Hm
open PySem L2

/-! ### statements over data -/
def mNext : MS := fun ρ E => E.nx ρ
def mSeq (a b : MS) : MS := fun ρ E => a ρ { E with nx := fun ρ' => b ρ' E }
def mAsg (i : Nat) (e : ME) : MS := fun ρ E => e ρ (fun d => E.nx (ρ.set i (.dat d))) (E.ex ρ)
def mAsgO (i : Nat) (e : MA) : MS := fun ρ E => e ρ (fun ds => E.nx (ρ.set i (.own ds))) (E.ex ρ)
def mDrop (e : ME) : MS := fun ρ E => e ρ (fun _ => E.nx ρ) (E.ex ρ)
def mRet (e : ME) : MS := fun ρ E => e ρ E.rt (E.ex ρ)
def mRetN : MS := fun _ E => E.rt .non
def mIfS (c : MT) (a b : MS) : MS := fun ρ E => c ρ (fun x => if x = true then a ρ E else b ρ E) (E.ex ρ)
def mBrk : MS := fun ρ E => E.bk ρ
def mCnt : MS := fun ρ E => E.ct ρ
abbrev MG := D → Rho → (Rho → Prop) → Prop
def gNm (i : Nat) : MG := fun d ρ Q => Q (ρ.set i (.dat d))
def setAll (ρ : Rho) : List Nat → List D → Rho
  | i :: is, d :: ds => setAll (ρ.set i (.dat d)) is ds
  | _, _ => ρ
def gTp (is : List Nat) : MG := fun d ρ Q => asT d fun ds => ds.length = is.length ∧ Q (setAll ρ is ds)
def mTo (e : ME) (g : MG) : MS := fun ρ E => e ρ (fun d => g d ρ E.nx) (E.ex ρ)
def mPar (i j : Nat) (a b : ME) : MS := fun ρ E => a ρ (fun x => b ρ (fun y => E.nx ((ρ.set i (.dat x)).set j (.dat y))) (E.ex ρ)) (E.ex ρ)
def mForL (g : MG) (body : MS) : List D → Rho → DEnds → Prop
  | [], ρ, E => E.nx ρ
  | x :: r, ρ, E => g x ρ fun ρ' => body ρ' { E with nx := fun ρ2 => mForL g body r ρ2 E, ct := fun ρ2 => mForL g body r ρ2 E, bk := E.nx }
def mFor (it : ME) (g : MG) (body : MS) : MS := fun ρ E => it ρ (fun d => asL d fun xs => mForL g body xs ρ E) (E.ex ρ)
def mForT (it : ME) (g : MG) (body : MS) : MS := fun ρ E => it ρ (fun d => asT d fun xs => mForL g body xs ρ E) (E.ex ρ)
def rngD (lo : Int) (n : Nat) : List D := (List.range n).map fun i => D.int (lo + (i : Nat))
def mForR1 (a : ME) (g : MG) (body : MS) : MS := fun ρ E => a ρ (fun d => asI d fun j => (-(2 ^ 62) ≤ j ∧ j < 2 ^ 62) ∧ mForL g body (rngD 0 j.toNat) ρ E) (E.ex ρ)
def mForR2 (a b : ME) (g : MG) (body : MS) : MS := fun ρ E => a ρ (fun x => b ρ (fun y => asI x fun i => asI y fun j => (-(2 ^ 62) ≤ i ∧ i < 2 ^ 62 ∧ -(2 ^ 62) ≤ j ∧ j < 2 ^ 62) ∧ mForL g body (rngD i (j - i).toNat) ρ E) (E.ex ρ)) (E.ex ρ)
def mWhile (c : MT) (body : MS) : MS := fun ρ E => ∃ Wd : Nat → Rho → Prop, (∃ m, Wd m ρ) ∧ ∀ m ρ, Wd m ρ →
  c ρ (fun b => if b = true then body ρ { E with nx := fun ρ' => ∃ m', m' < m ∧ Wd m' ρ', ct := fun ρ' => ∃ m', m' < m ∧ Wd m' ρ', bk := E.nx } else E.nx ρ) (E.ex ρ)
def mRaise (x : Err) : MS := fun ρ E => E.ex ρ x
def mFun (k n : Nat) (b : MS) : MF := fun ds Q W => ds.length = k ∧ b (ds.map Sl.dat ++ List.replicate (n - k) .un) { nx := fun _ => Q .non, rt := Q, bk := fun _ => False, ct := fun _ => False, ex := fun _ x => W x }

section
variable {f : FrC} {X : Cx} {W : WX} {ca cb cc : Nat} {a b c : Expr} {es : List Expr} {ma mb mc : ME} {ta tb tc : MT} {mas : MA} {st : Stmt} {sts : List Stmt} {ms mt : MS} {pos : Pos} {B : Addr → Prop} {σ : St} {H : Hp} {ρ : Rho} {n : Nat}

theorem ErrAt.kp {x : Err} {cls : Value} {dd : Option Addr} {H' : Hp} (k : Okk f B H n) (e : Kp f.g H H') (r : ErrAt f.g B H cls dd x) : ErrAt f.g B H' cls dd x := by
  obtain ⟨C, h1, h2, h3⟩ := r
  refine ⟨C, h1, h2, ?_⟩
  rcases h3 with h3 | ⟨d, kvs, e1, e2, e3, e4, e5⟩
  · exact .inl h3
  · exact .inr ⟨d, kvs, e1, e d _ (fun z => e3 (k.inB z)) e2, e3, e4.move fun a o h nb => ⟨e a o (fun z => nb (k.inB z)) h, nb⟩, e5⟩
theorem Rep.low {v : V} {d : D} (k : Okk f B H n) (r : Rep f.g B H v d) : Rep f.g f.B0 H v d := r.move fun a o h nb => ⟨h, fun z => nb (k.b0 a z)⟩
theorem Rep.lowR {v : V} {d : D} (k : Okk f B H n) (hN : f.N = fun _ => False) (r : Rep f.g B H v d) : Rep f.g f.RB H v d := r.move fun a o h nb => ⟨h, fun z => z.elim (fun y => nb (k.b0 a y)) fun y => by rw [hN] at y; exact y⟩

theorem cs_nil : CB f X W 0 [] mNext := PSs.imp pss_nil fun D σ H h => by
  obtain ⟨B, n, ρ, E, R, hm, hn, _⟩ := h
  exact hn B σ H ρ hm R
theorem cs_cons (h1 : CS f X W ca st ms) (h2 : CB f X W cb sts mt) : CB f X W (ca + cb) (st :: sts) (mSeq ms mt) := PSs.imp (pss_cons h1 h2) fun D σ H h => by
  obtain ⟨B, n, ρ, E, R, hm, hn, hr, hb, hc, hx⟩ := h
  refine ⟨B, n + cb, ρ, _, R.mono (by omega), hm, fun B' σ' H' ρ' q R' => ?_, fun d v H' q e s r => hr d v H' q e (s.mono (by omega)) r, fun B' σ' H' ρ' q R' => hb B' σ' H' ρ' q (R'.mono (by omega)), fun B' σ' H' ρ' q R' => hc B' σ' H' ρ' q (R'.mono (by omega)),
    fun B' x cls dd σ' H' ρ' q R' er => hx B' x cls dd σ' H' ρ' q (R'.mono (by omega)) er⟩
  exact ⟨B', n, ρ', E, R', q, hn, hr, hb, hc, hx⟩
theorem cs_one (h1 : CS f X W ca st ms) : CB f X W ca [st] ms := pss_one h1
theorem cs_asg {i : Nat} {x : Str} {p : Pos} (hN : X.N.Nodup) (he : CE f X W ca a ma) (hi : X.N[i]? = some x := by rfl) (hx : Loc X.env.scope x := by first | exact Or.inl rfl | exact Or.inr rfl) (hf : X.fn x = true ∨ X.env.scope.names.lookup x = some .local := by first | exact .inl rfl | exact .inr rfl | assumption)
    (hs : swapsWithSole [.Name x p] a pos.line X.env = pure false := by rfl) (hw : swappedStores [.Name x p] a X.env = pure none := by rfl) : CS f X W ca (.Assign [.Name x p] a pos) (mAsg i ma) :=
  PS.imp (ps_asg he (pg_name (i := i) hN hi hx hf) hs hw rfl) fun D σ H h => by
    obtain ⟨B, n, ρ, E, R, hm, hn, hr, hb, hc, hx⟩ := h
    exact rd_i (m := n) R hm (fun d v H1 h1 e1 R1 r1 => hn B _ H1 _ h1 (R1.set r1)) fun x cls dd H' q e s er => hx B x cls dd σ H' ρ q (R.kp e s) er
theorem cs_expr (he : CE f X W ca a ma) (hs : swapsWith a none pos.line X.env = pure false := by rfl) : CS f X W ca (.Expr a pos) (mDrop ma) := PS.imp (ps_expr he hs) fun D σ H h => by
  obtain ⟨B, n, ρ, E, R, hm, hn, hr, hb, hc, hx⟩ := h
  exact rd_i (m := n) R hm (fun d v H1 h1 e1 R1 r1 => hn B _ H1 _ h1 R1) fun x cls dd H' q e s er => hx B x cls dd σ H' ρ q (R.kp e s) er
theorem cs_ret (hN : f.N = fun _ => False) (he : CE f X W ca a ma) : CS f X W ca (.Return (some a) pos) (mRet ma) := PS.imp (ps_ret he) fun D σ H h => by
  obtain ⟨B, n, ρ, E, R, hm, hn, hr, hb, hc, hx⟩ := h
  exact rd_i (m := n) R hm (fun d v H1 h1 e1 R1 r1 => hr d v H1 h1 R1.ok.keep R1.ok.src (r1.lowR R1.ok hN)) fun x cls dd H' q e s er => hx B x cls dd σ H' ρ q (R.kp e s) er
theorem cs_retN : CS f X W 0 (.Return none pos) mRetN := PS.imp ps_retN fun D σ H h => by
  obtain ⟨B, n, ρ, E, R, hm, hn, hr, hb, hc, hx⟩ := h
  exact hr _ _ H hm R.ok.keep R.ok.src .non
theorem cs_pass : CS f X W 0 (.Pass pos) mNext := PS.imp ps_pass fun D σ H h => by
  obtain ⟨B, n, ρ, E, R, hm, hn, _⟩ := h
  exact hn B σ H ρ hm R
theorem cs_brk : CS f X W 0 (.Break pos) mBrk := PS.imp ps_break fun D σ H h => by
  obtain ⟨B, n, ρ, E, R, hm, hn, hr, hb, hc, hx⟩ := h
  exact hb B σ H ρ hm R
theorem cs_cnt : CS f X W 0 (.Continue pos) mCnt := PS.imp ps_continue fun D σ H h => by
  obtain ⟨B, n, ρ, E, R, hm, hn, hr, hb, hc, hx⟩ := h
  exact hc B σ H ρ hm R
theorem cs_if {t : Expr} {sa sb : List Stmt} (ht : CT f X W cc t tc) (ha : CB f X W ca sa ms) (hb : CB f X W cb sb mt) : CS f X W (cc + (ca + cb)) (.If t sa sb pos) (mIfS tc ms mt) := PS.imp (ps_if ht ha hb) fun D σ H h => by
  obtain ⟨B, n, ρ, E, R, hm, hn, hr, hb, hc, hx⟩ := h
  refine rt_i (m := n + (ca + cb)) (R.mono (by omega)) hm (fun x H1 h1 e1 R1 => ?_) fun x cls dd H' q e s er => hx B x cls dd σ H' ρ q (R.kp e (s.mono (by omega))) er
  cases x with
  | true =>
    rw [if_pos rfl] at h1 ⊢
    exact ⟨B, n, ρ, E, R1.mono (by omega), h1, hn, hr, hb, hc, hx⟩
  | false =>
    rw [if_neg Bool.false_ne_true] at h1 ⊢
    exact ⟨B, n, ρ, E, R1.mono (by omega), h1, hn, hr, hb, hc, hx⟩

/-! targets -/
/-- slots elsewhere are as they were -/
def Agr (is : List Nat) (σ σ' : St) : Prop := σ'.length = σ.length ∧ ∀ i, i ∉ is → σ'[i]? = σ[i]?
/-- a target over values, over data; it stores at the slots is -/
def TgD (f : FrC) (is : List Nat) (t : TG) (g : MG) : Prop := ∀ (B : Addr → Prop) (σ : St) (H : Hp) (ρ : Rho) (n : Nat) (v : V) (d : D) (Q0 : Rho → Prop) (Q : St → Hp → Prop), Rel f B σ H ρ n → Rep f.g B H v d → g d ρ Q0 → (∀ σ' ρ', Q0 ρ' → Rel f B σ' H ρ' n → Agr is σ σ' → Q σ' H) → t v σ H Q
theorem agr_set {is : List Nat} {σ : St} {i : Nat} {x : Option V} (h : i ∈ is) : Agr is σ (σ.set i x) := ⟨List.length_set, fun j hj => List.getElem?_set_ne (fun e : i = j => hj (e ▸ h))⟩
theorem tg_name {i : Nat} : TgD f [i] (gName i) (gNm i) := fun B σ H ρ n v d Q0 Q R r h k => k _ _ h (R.set r) (agr_set (by simp))
def tgs (f : FrC) (t : TGs) (is : List Nat) : Prop := ∀ (B : Addr → Prop) (σ : St) (H : Hp) (ρ : Rho) (n : Nat) (vs : List V) (ds : List D) (Q0 : Rho → Prop) (Q : St → Hp → Prop), Rel f B σ H ρ n → Reps f.g B H vs ds → ds.length = is.length → Q0 (setAll ρ is ds) → (∀ σ' ρ', Q0 ρ' → Rel f B σ' H ρ' n → Agr is σ σ' → Q σ' H) → t vs σ H Q
theorem tgs_nil : tgs f gNil [] := fun B σ H ρ n vs ds Q0 Q R r hl h k => by
  cases r with
  | nil => exact ⟨rfl, k σ ρ h R ⟨rfl, fun _ _ => rfl⟩⟩
  | cons _ _ => cases hl
theorem tgs_cons {i : Nat} {is : List Nat} {t : TGs} (ht : tgs f t is) : tgs f (gCons (gName i) t) (i :: is) := fun B σ H ρ n vs ds Q0 Q R r hl h k => by
  cases r with
  | nil => cases hl
  | cons r1 r2 =>
    refine ⟨_, _, rfl, ht B _ H _ n _ _ Q0 Q (R.set r1) r2 (Nat.succ.inj hl) h fun σ' ρ' q R' ag => k σ' ρ' q R' ⟨ag.1.trans List.length_set, fun j hj => ?_⟩⟩
    rw [ag.2 j fun z => hj (List.mem_cons_of_mem _ z)]
    exact List.getElem?_set_ne (fun e : i = j => hj (by rw [← e]; exact List.mem_cons_self))
theorem tg_tup {is : List Nat} {t : TGs} {k : Nat} (hK : f.g.K = X.K) (hk : is.length = k) (ht : tgs f t is) : TgD f is (gTup X.K k t) (gTp is) := fun B σ H ρ n v d Q0 Q R r h q => by
  cases r with
  | tup h1 h2 h3 => exact ⟨_, _, rfl, .inl (.inl h1), by rw [h3.length, h.1, hk], ht B σ H ρ n _ _ Q0 Q R h3 h.1 h.2 q⟩
  | wtup h1 h3 => exact ⟨_, _, rfl, .inr (hK ▸ h1), by rw [h3.length, h.1, hk], ht B σ H ρ n _ _ Q0 Q R h3 h.1 h.2 q⟩
  | _ => exact h.elim
theorem cs_to {tg : Expr} {t : TG} {g : MG} {is : List Nat} (he : CE f X W ca a ma) (hg : PG X tg t) (hd : TgD f is t g) (hs : swapsWithSole [tg] a pos.line X.env = pure false := by rfl) (hw : swappedStores [tg] a X.env = pure none := by rfl)
    (h1 : (assignEach [tg] X.env).map (·.2) = [assign tg X.env] := by rfl) : CS f X W ca (.Assign [tg] a pos) (mTo ma g) := PS.imp (ps_asg he hg hs hw h1) fun D σ H h => by
  obtain ⟨B, n, ρ, E, R, hm, hn, hr, hb, hc, hx⟩ := h
  exact rd_i (m := n) R hm (fun d v H1 h1 e1 R1 r1 => hd B σ H1 ρ n v d _ _ R1 r1 h1 fun σ' ρ' q R' _ => hn B σ' H1 ρ' q R') fun x cls dd H' q e s er => hx B x cls dd σ H' ρ q (R.kp e s) er
theorem cs_par {i j : Nat} {x y : Str} {px py pt : Pos} {kt k2 pt2} (hc : X.calm = true) (hN : X.N.Nodup) (hij : i ≠ j) (ha : CE f X W ca a ma) (hb : CE f X W cb b mb) (hi : X.N[i]? = some x := by rfl) (hj : X.N[j]? = some y := by rfl)
    (hx : X.env.scope.names.lookup x = some .local := by rfl) (hy : X.env.scope.names.lookup y = some .local := by rfl)
    (hw : swappedStores [.Tuple [.Name x px, .Name y py] kt pt] (.Tuple [a, b] k2 pt2) X.env = pure (some [x, y]) := by rfl)
    (hs : swapsWithSole [.Tuple [.Name x px, .Name y py] kt pt] (.Tuple [a, b] k2 pt2) pos.line X.env = pure false := by rfl) (ea : starEach [a, b] X.env = (false, eval a X.env) :: starEach [b] X.env := by rfl) (eb : starEach [b] X.env = (false, eval b X.env) :: starEach [] X.env := by rfl) :
    CS f X W (ca + (cb + 0)) (.Assign [.Tuple [.Name x px, .Name y py] kt pt] (.Tuple [a, b] k2 pt2) pos) (mPar i j ma mb) :=
  PS.imp (ps_par (i := i) (j := j) hc hN hi hj hij hx hy (ca_cons ha (ca_cons hb ca_nil eb) ea) hw hs) fun D σ H h => by
    obtain ⟨B, n, ρ, E, R, hm, hn, hr, hb, hc, hx⟩ := h
    refine ra_i (m := n) (Q0 := fun ds => ∃ x y, ds = [x, y] ∧ E.nx ((ρ.set i (.dat x)).set j (.dat y))) (W0 := E.ex ρ) R ?_ (fun ds vs H1 h1 e1 R1 r1 => ?_) fun x cls dd H' q e s er => hx B x cls dd σ H' ρ q (R.kp e s) er
    · show ma ρ (fun x => mb ρ (fun y => ∃ u v, [x, y] = [u, v] ∧ _) _) _
      have hm' : ma ρ (fun x => mb ρ (fun y => E.nx ((ρ.set i (.dat x)).set j (.dat y))) (E.ex ρ)) (E.ex ρ) := hm
      have ex : (fun x => mb ρ (fun y => ∃ u v, [x, y] = [u, v] ∧ E.nx ((ρ.set i (.dat u)).set j (.dat v))) (E.ex ρ)) = (fun x => mb ρ (fun y => E.nx ((ρ.set i (.dat x)).set j (.dat y))) (E.ex ρ)) := by
        funext x
        congr 1
        funext y
        apply propext
        constructor
        · rintro ⟨u, v, e, q⟩
          injection e with e1 e2
          injection e2 with e2 _
          subst e1; subst e2
          exact q
        · intro q
          exact ⟨x, y, rfl, q⟩
      rw [ex]
      exact hm'
    · obtain ⟨x, y, rfl, q⟩ := h1
      cases r1 with
      | cons r1 r2 =>
        cases r2 with
        | cons r2 r3 =>
          cases r3
          exact ⟨_, _, rfl, hn B _ H1 _ q ((R1.set r1).set r2)⟩
end
end Hm
set_option Elab.async false
set_option linter.all false
set_option maxRecDepth 100000
set_option maxHeartbeats 2000000
namespace Hm
open PySem L2

/-! ### a frame taken up in the middle: all but its own lists stands from here on -/
open Classical in
noncomputable def FrC.root (f : FrC) (B : Addr → Prop) (H : Hp) : FrC := ⟨f.g, f.B0, fun a => if B a ∧ ¬ f.B0 a then none else H a, f.N⟩
section
variable {f : FrC} {B B' : Addr → Prop} {σ σ' : St} {H H' : Hp} {ρ ρ' : Rho} {n n' : Nat}
theorem root_none {a : Addr} (h : B a) (h0 : ¬ f.B0 a) : (f.root B H).H0 a = none := if_pos ⟨h, h0⟩
theorem root_some {a : Addr} (h : ¬ (B a ∧ ¬ f.B0 a)) : (f.root B H).H0 a = H a := if_neg h
theorem Okk.own0 (k : Okk f B H n) {p : Addr} (h : f.H0 p = none) : ¬ f.B0 p := fun z => k.d0 p z h
theorem Rel.root (R : Rel f B σ H ρ n) : Rel (f.root B H) B σ H ρ n := by
  have own : ∀ p, B p → f.H0 p = none → (f.root B H).H0 p = none := fun p b h => root_none b (R.ok.own0 h)
  refine ⟨⟨R.ok.s0, fun a h => ?_, R.ok.b0, fun a h => ?_, R.ok.dom, fun a o ns h => ?_, R.ok.src⟩, R.len, fun i x o h1 h2 => ?_, R.inj⟩
  · have h' : f.B0 a := h
    rw [root_some fun z => z.2 h']
    exact R.ok.dom a (R.ok.b0 a h')
  · by_cases h0 : f.B0 a
    · exact .inl h0
    · exact .inr (root_none h h0)
  · by_cases hb : B a ∧ ¬ f.B0 a
    · rw [root_none hb.1 hb.2] at h; cases h
    · rw [root_some hb] at h; exact h
  · have q := R.sl i x o h1 h2
    cases x with
    | un => trivial
    | dat d => exact q
    | own ds =>
      obtain ⟨p, vs, e1, b, h0, hp, r⟩ := q
      exact ⟨p, vs, e1, b, own p b h0, hp, r⟩
    | ownt ds =>
      obtain ⟨p, vs, e1, b, h0, hp, r⟩ := q
      exact ⟨p, vs, e1, b, own p b h0, hp, r⟩
    | kt d => exact q
    | ownd ds =>
      obtain ⟨p, vs, e1, b, h0, hp, r⟩ := q
      exact ⟨p, vs, e1, b, own p b h0, hp, r⟩
theorem Okk.back0 (k : Okk f B H n) {p : Addr} (h : (f.root B H).H0 p = none) : f.H0 p = none := by
  cases z : f.H0 p with
  | none => rfl
  | some o =>
    by_cases hb : B p ∧ ¬ f.B0 p
    · rcases k.ow p hb.1 with q | q
      · exact absurd q hb.2
      · rw [q] at z; cases z
    · rw [root_some hb] at h
      by_cases hs : InS f.g p
      · exact absurd h (k.dom p (k.inB hs))
      · rw [k.keep p o hs z] at h; cases h
theorem Okk.keepBack (k : Okk f B H n) (e : Kp f.g (f.root B H).H0 H') : Kp f.g f.H0 H' := fun a o ns h => by
  have h1 := k.keep a o ns h
  by_cases hb : B a ∧ ¬ f.B0 a
  · rcases k.ow a hb.1 with q | q
    · exact absurd q hb.2
    · rw [q] at h; cases h
  · exact e a o ns (by rw [root_some hb]; exact h1)
theorem Rel.unroot (k : Okk f B H n) (R : Rel (f.root B H) B' σ' H' ρ' n') : Rel f B' σ' H' ρ' n' := by
  refine ⟨⟨R.ok.s0, k.d0, R.ok.b0, fun a h => ?_, R.ok.dom, k.keepBack R.ok.keep, R.ok.src⟩, R.len, fun i x o h1 h2 => ?_, R.inj⟩
  · rcases R.ok.ow a h with q | q
    · exact .inl q
    · exact .inr (k.back0 q)
  · have q := R.sl i x o h1 h2
    cases x with
    | un => trivial
    | dat d => exact q
    | own ds =>
      obtain ⟨p, vs, e1, b, h0, hp, r⟩ := q
      exact ⟨p, vs, e1, b, k.back0 h0, hp, r⟩
    | ownt ds =>
      obtain ⟨p, vs, e1, b, h0, hp, r⟩ := q
      exact ⟨p, vs, e1, b, k.back0 h0, hp, r⟩
    | kt d => exact q
    | ownd ds =>
      obtain ⟨p, vs, e1, b, h0, hp, r⟩ := q
      exact ⟨p, vs, e1, b, k.back0 h0, hp, r⟩
theorem Rel.like (R : Rel f B σ H ρ n) : (f.root B H).Like f := ⟨rfl, rfl, fun nw a ha => by
  obtain ⟨ns, o, h0, hl⟩ := nw a ha
  refine ⟨ns, o, ?_, hl⟩
  have hb : ¬ (B a ∧ ¬ f.B0 a) := fun z => by
    rcases R.ok.ow a z.1 with q | q
    · exact z.2 q
    · rw [q] at h0; cases h0
  rw [root_some hb]
  exact R.ok.keep a o ns h0⟩
/-- what no own list is stands behind the part -/
theorem Rel.stood (k : Okk f B H n) (R : Rel (f.root B H) B' σ' H' ρ' n') {a : Addr} {o : HO} (h : H a = some o) (nb : ¬ B a) : H' a = some o ∧ ¬ B' a := by
  have e0 : (f.root B H).H0 a = some o := by rw [root_some fun z => nb z.1]; exact h
  refine ⟨R.ok.keep a o (fun z => nb (k.inB z)) e0, fun z => ?_⟩
  rcases R.ok.ow a z with q | q
  · exact nb (k.b0 a q)
  · rw [q] at e0; cases e0
end

section
variable {f : FrC} {X : Cx} {W : WX} {ca cb cc : Nat} {a b c : Expr} {es : List Expr} {ma mb mc : ME} {ta tb tc : MT} {mas : MA} {st : Stmt} {body : List Stmt} {ms mt : MS} {pos : Pos} {B : Addr → Prop} {σ : St} {H : Hp} {ρ : Rho} {n : Nat}
/-- a block under every frame of the same law -/
def CBs (f : FrC) (X : Cx) (W : WX) (c : Nat) (s : List Stmt) (m : MS) : Prop := ∀ f' : FrC, f'.Like f → CB f' X W c s m
def RSs (f : FrC) (W : WX) (c : Nat) (m : MS) : TS := fun D σ H => ∃ f' : FrC, f'.Like f ∧ RS f' W c m D σ H
theorem CBs.ps (h : CBs f X W ca body ms) : PSs X body (RSs f W ca ms) := ⟨fun pins s σ H D I ⟨f', e, q⟩ => (h f' e).run pins s σ H D I q⟩
def TgDs (f : FrC) (t : TG) (g : MG) : Prop := ∀ f' : FrC, f'.Like f → ∃ is, TgD f' is t g

/-- one turn: the target, then the body -/
theorem turn_i {t : TG} {g : MG} {De : Ends} {E : DEnds} {Pv : St → Hp → Prop} {x : V} {d : D} {xs : List D} {k : Nat} (hd : TgDs f t g) (R : Rel f B σ H ρ (n + k + cb)) (r : Rep f.g B H x d) (h : mForL g ms (d :: xs) ρ E)
    (hn : ∀ B' σ' H' ρ', E.nx ρ' → Rel f B' σ' H' ρ' n → De.nx σ' H') (hr : ∀ d v H', E.rt d → Kp f.g f.H0 H' → SrcOk f.g H' n → Rep f.g f.RB H' v d → De.rt v H')
    (hx : ∀ B' x cls dd σ' H' ρ', E.ex ρ' x → Rel f B' σ' H' ρ' n → ErrAt f.g B' H' cls dd x → W cls dd σ' H')
    (next : ∀ B' σ' H' ρ', mForL g ms xs ρ' E → Rel f B' σ' H' ρ' (n + k) → (∀ a o, H a = some o → ¬ B a → H' a = some o ∧ ¬ B' a) → Pv σ' H') :
    t x σ H fun σ2 H2 => RSs f W cb ms { De with nx := Pv, ct := Pv, bk := De.nx } σ2 H2 := by
  have R0 := R.root
  have lk := R.like
  obtain ⟨is, hd'⟩ := hd (f.root B H) lk
  refine hd' B σ H ρ _ x d _ _ R0 r h fun σ2 ρ2 q R2 _ => ?_
  refine ⟨f.root B H, lk, B, n + k, ρ2, _, R2, q, fun B' σ' H' ρ' q' R' => ?_, fun d v H' q' e s rr => ?_, fun B' σ' H' ρ' q' R' => ?_, fun B' σ' H' ρ' q' R' => ?_, fun B' x cls dd σ' H' ρ' q' R' er => ?_⟩
  · exact next B' σ' H' ρ' q' (R'.unroot R.ok) fun a o h nb => R'.stood R.ok h nb
  · exact hr d v H' q' (R.ok.keepBack e) (s.mono (by omega)) rr
  · exact hn B' σ' H' ρ' q' ((R'.unroot R.ok).mono (by omega))
  · exact next B' σ' H' ρ' q' (R'.unroot R.ok) fun a o h nb => R'.stood R.ok h nb
  · exact hx B' x cls dd σ' H' ρ' q' ((R'.unroot R.ok).mono (by omega)) er

theorem drop_get {α : Type} {l : List α} {i : Nat} {x : α} (h : l[i]? = some x) : l.drop i = x :: l.drop (i + 1) := by
  obtain ⟨h1, h2⟩ := List.getElem?_eq_some_iff.mp h
  rw [List.drop_eq_getElem_cons h1, h2]
theorem fits_step {n k i m : Nat} (h : i < m) : n + (m - i) * k = n + (m - (i + 1)) * k + k := by
  have e : m - i = (m - (i + 1)) + 1 := by omega
  rw [e, Nat.add_mul, Nat.one_mul, Nat.add_assoc]

theorem mul_step {n k i m : Nat} (h : i < m) : n + (m - (i + 1)) * k + k ≤ n + (m - i) * k := by
  rw [fits_step (n := n) (k := k) h]
  exact Nat.le_refl _
theorem for_core {De : Ends} {E : DEnds} {t : TG} {g : MG} {L : Nat} {p : Addr} {vs : List V} {ds : List D} (hd : TgDs f t g) (hz : vs.length ≤ L) (R : Rel f B σ H ρ (n + L * cb)) (h : mForL g ms ds ρ E) (rs : Reps f.g B H vs ds)
    (K : PySem.W.Frag) {o : HO} (ha : H p = some o) (nb : ¬ B p) (hl : ∀ H', H' p = some o → SqL K H' p vs)
    (hn : ∀ B' σ' H' ρ', E.nx ρ' → Rel f B' σ' H' ρ' n → De.nx σ' H') (hr : ∀ d v H', E.rt d → Kp f.g f.H0 H' → SrcOk f.g H' n → Rep f.g f.RB H' v d → De.rt v H')
    (hx : ∀ B' x cls dd σ' H' ρ', E.ex ρ' x → Rel f B' σ' H' ρ' n → ErrAt f.g B' H' cls dd x → W cls dd σ' H') :
    ∃ Wf : Nat → Nat → St → Hp → Prop, (∃ m, Wf 0 m σ H) ∧ ∀ i m σ H, Wf i m σ H →
      ((Itl K p).stop i H ∧ De.nx σ H) ∨ ((Itl K p).go i H ∧ ∃ N : St → Hp → Prop, (∀ σ' H', N σ' H' → ∃ m', m' < m ∧ Wf (i + 1) m' σ' H') ∧ ∀ x H', (Itl K p).yld i H x H' → t x σ H' fun σ2 H2 => RSs f W cb ms { De with nx := N, ct := N, bk := De.nx } σ2 H2) := by
  refine for_list (K := K) (a := p) (xs := vs) (fun i σ' H' => ∃ B' ρ', Rel f B' σ' H' ρ' (n + (L - i) * cb) ∧ mForL g ms (ds.drop i) ρ' E ∧ H' p = some o ∧ ¬ B' p ∧ Reps f.g B' H' vs ds)
    ⟨B, ρ, R, h, ha, nb, rs⟩ (fun i σ' H' _ ⟨_, _, _, _, h4, _⟩ => hl H' h4) (fun i x σ' H' hi' hP => ?_) (fun σ' H' hP => ?_)
  · obtain ⟨B', ρ', R', hf, ha', nb', rs'⟩ := hP
    have hlt : i < vs.length := (List.getElem?_eq_some_iff.mp hi').1
    have hds : i < ds.length := by rw [← rs.length]; exact hlt
    have ed : ds[i]? = some ds[i] := List.getElem?_eq_getElem hds
    obtain ⟨v2, ev, rv⟩ := rs'.get ed
    rw [hi'] at ev
    cases ev
    rw [drop_get ed] at hf
    refine turn_i (n := n) (k := (L - (i + 1)) * cb) hd (R'.mono (mul_step (by omega))) rv hf hn hr hx fun B2 σ2 H2 ρ2 q2 R2 st => ?_
    exact ⟨B2, ρ2, R2, q2, (st _ _ ha' nb').1, (st _ _ ha' nb').2, rs'.move fun a o h nb => st a o h nb⟩
  · obtain ⟨B', ρ', R', hf, _⟩ := hP
    rw [rs.length, List.drop_length] at hf
    exact hn B' σ' H' ρ' hf (R'.mono (by omega))
theorem for_coreT {De : Ends} {E : DEnds} {t : TG} {g : MG} {L : Nat} {p : Addr} {vs : List V} {ds : List D} (hd : TgDs f t g) (hz : vs.length ≤ L) (R : Rel f B σ H ρ (n + L * cb)) (h : mForL g ms ds ρ E) (rs : Reps f.g B H vs ds)
    (K : PySem.W.Frag) (ha : (H p = some (.tup vs) ∧ ¬ B p) ∨ WrT K p vs)
    (hn : ∀ B' σ' H' ρ', E.nx ρ' → Rel f B' σ' H' ρ' n → De.nx σ' H') (hr : ∀ d v H', E.rt d → Kp f.g f.H0 H' → SrcOk f.g H' n → Rep f.g f.RB H' v d → De.rt v H')
    (hx : ∀ B' x cls dd σ' H' ρ', E.ex ρ' x → Rel f B' σ' H' ρ' n → ErrAt f.g B' H' cls dd x → W cls dd σ' H') :
    ∃ Wf : Nat → Nat → St → Hp → Prop, (∃ m, Wf 0 m σ H) ∧ ∀ i m σ H, Wf i m σ H →
      ((Itt K p).stop i H ∧ De.nx σ H) ∨ ((Itt K p).go i H ∧ ∃ N : St → Hp → Prop, (∀ σ' H', N σ' H' → ∃ m', m' < m ∧ Wf (i + 1) m' σ' H') ∧ ∀ x H', (Itt K p).yld i H x H' → t x σ H' fun σ2 H2 => RSs f W cb ms { De with nx := N, ct := N, bk := De.nx } σ2 H2) := by
  refine for_tup (K := K) (a := p) (xs := vs) (fun i σ' H' => ∃ B' ρ', Rel f B' σ' H' ρ' (n + (L - i) * cb) ∧ mForL g ms (ds.drop i) ρ' E ∧ ((H' p = some (.tup vs) ∧ ¬ B' p) ∨ WrT K p vs) ∧ Reps f.g B' H' vs ds)
    ⟨B, ρ, R, h, ha, rs⟩ (fun i σ' H' _ ⟨_, _, _, _, h4, _⟩ => h4.elim (fun z => .inl (.inl z.1)) .inr) (fun i x σ' H' hi' hP => ?_) (fun σ' H' hP => ?_)
  · obtain ⟨B', ρ', R', hf, ha', rs'⟩ := hP
    have hlt : i < vs.length := (List.getElem?_eq_some_iff.mp hi').1
    have hds : i < ds.length := by rw [← rs.length]; exact hlt
    have ed : ds[i]? = some ds[i] := List.getElem?_eq_getElem hds
    obtain ⟨v2, ev, rv⟩ := rs'.get ed
    rw [hi'] at ev
    cases ev
    rw [drop_get ed] at hf
    refine turn_i (n := n) (k := (L - (i + 1)) * cb) hd (R'.mono (mul_step (by omega))) rv hf hn hr hx fun B2 σ2 H2 ρ2 q2 R2 st => ?_
    exact ⟨B2, ρ2, R2, q2, ha'.imp (fun z => st _ _ z.1 z.2) id, rs'.move fun a o h nb => st a o h nb⟩
  · obtain ⟨B', ρ', R', hf, _⟩ := hP
    rw [rs.length, List.drop_length] at hf
    exact hn B' σ' H' ρ' hf (R'.mono (by omega))
theorem rng_drop {lo : Int} {k i : Nat} (h : i < k) : (rngD lo k).drop i = .int (lo + (i : Nat)) :: (rngD lo k).drop (i + 1) := by
  refine drop_get ?_
  unfold rngD
  rw [List.getElem?_map, List.getElem?_range h]
  rfl
theorem for_coreR {De : Ends} {E : DEnds} {t : TG} {g : MG} {L k : Nat} {lo : Int} (hd : TgDs f t g) (hz : k ≤ L) (R : Rel f B σ H ρ (n + L * cb)) (h : mForL g ms (rngD lo k) ρ E)
    (hn : ∀ B' σ' H' ρ', E.nx ρ' → Rel f B' σ' H' ρ' n → De.nx σ' H') (hr : ∀ d v H', E.rt d → Kp f.g f.H0 H' → SrcOk f.g H' n → Rep f.g f.RB H' v d → De.rt v H')
    (hx : ∀ B' x cls dd σ' H' ρ', E.ex ρ' x → Rel f B' σ' H' ρ' n → ErrAt f.g B' H' cls dd x → W cls dd σ' H') :
    ∃ Wf : Nat → Nat → St → Hp → Prop, (∃ m, Wf 0 m σ H) ∧ ∀ i m σ H, Wf i m σ H →
      ((Itr lo k).stop i H ∧ De.nx σ H) ∨ ((Itr lo k).go i H ∧ ∃ N : St → Hp → Prop, (∀ σ' H', N σ' H' → ∃ m', m' < m ∧ Wf (i + 1) m' σ' H') ∧ ∀ x H', (Itr lo k).yld i H x H' → t x σ H' fun σ2 H2 => RSs f W cb ms { De with nx := N, ct := N, bk := De.nx } σ2 H2) := by
  refine for_range (lo := lo) (n := k) (fun i σ' H' => ∃ B' ρ', Rel f B' σ' H' ρ' (n + (L - i) * cb) ∧ mForL g ms ((rngD lo k).drop i) ρ' E)
    ⟨B, ρ, R, h⟩ (fun i σ' H' hi' hP => ?_) (fun σ' H' hP => ?_)
  · obtain ⟨B', ρ', R', hf⟩ := hP
    rw [rng_drop hi'] at hf
    exact turn_i (n := n) (k := (L - (i + 1)) * cb) hd (R'.mono (mul_step (by omega))) (.int _) hf hn hr hx fun B2 σ2 H2 ρ2 q2 R2 st => ⟨B2, ρ2, R2, q2⟩
  · obtain ⟨B', ρ', R', hf⟩ := hP
    have e : (rngD lo k).drop k = [] := List.drop_of_length_le (by unfold rngD; rw [List.length_map, List.length_range]; exact Nat.le_refl _)
    rw [e] at hf
    exact hn B' σ' H' ρ' hf (R'.mono (by omega))

/-- for x in xs, no draws within -/
theorem cs_for {tg : Expr} {t : TG} {g : MG} (hK : f.g.K = X.K) (hp : PassesOwn (model X.prog X.w) X.A X.env X.xe) (hc : X.calm = true) (hi : CE f X W ca a ma) (hg : PG X tg t) (hd : TgDs f t g) (hb : CBs f X W cb body ms)
    (hs : ∀ x, foldedSetIterable a X.env x = pure x := by intro _; rfl) (h0 : cb = 0 := by rfl) : CS f X W ca (.For tg a body [] pos) (mFor ma g ms) := by
  subst h0; exact
  PS.imp (ps_for hp hc (pi_list hi) hg hb.ps hs) fun De σ H h => by
    obtain ⟨B, n, ρ, E, R, hm, hn, hr, hbk, hct, hx⟩ := h
    refine rd_i (m := n) R hm (fun d v H1 h1 e1 R1 r1 => ?_) fun x cls dd H' q e s er => hx B x cls dd σ H' ρ q (R.kp e s) er
    cases r1 with
    | lst ha nb rs => exact ⟨_, rfl, ⟨_, .inl (.inl ha)⟩, for_core (n := n) (cb := 0) hd (Nat.le_refl _) (by rw [Nat.mul_zero]; exact R1) h1 rs X.K ha nb (fun _ z => .inl (.inl z)) hn hr hx⟩
    | _ => exact h1.elim
/-- .. at most N turns -/
def mForB (N : Nat) (it : ME) (g : MG) (body : MS) : MS := fun ρ E => it ρ (fun d => asL d fun xs => xs.length ≤ N ∧ mForL g body xs ρ E) (E.ex ρ)
theorem cs_forB (N : Nat) {tg : Expr} {t : TG} {g : MG} (hK : f.g.K = X.K) (hp : PassesOwn (model X.prog X.w) X.A X.env X.xe) (hc : X.calm = true) (hi : CE f X W ca a ma) (hg : PG X tg t) (hd : TgDs f t g) (hb : CBs f X W cb body ms)
    (hs : ∀ x, foldedSetIterable a X.env x = pure x := by intro _; rfl) : CS f X W (ca + N * cb) (.For tg a body [] pos) (mForB N ma g ms) :=
  PS.imp (ps_for hp hc (pi_list hi) hg hb.ps hs) fun De σ H h => by
    obtain ⟨B, n, ρ, E, R, hm, hn, hr, hbk, hct, hx⟩ := h
    refine rd_i (m := n + N * cb) (R.mono (by omega)) hm (fun d v H1 h1 e1 R1 r1 => ?_) fun x cls dd H' q e s er => hx B x cls dd σ H' ρ q (R.kp e (s.mono (by omega))) er
    cases r1 with
    | lst ha nb rs => exact ⟨_, rfl, ⟨_, .inl (.inl ha)⟩, for_core (n := n) (cb := cb) (L := N) hd (by rw [rs.length]; exact h1.1) R1 h1.2 rs X.K ha nb (fun _ z => .inl (.inl z)) hn hr hx⟩
    | _ => exact h1.elim
theorem cs_forT {tg : Expr} {t : TG} {g : MG} (hK : f.g.K = X.K) (hp : PassesOwn (model X.prog X.w) X.A X.env X.xe) (hc : X.calm = true) (hi : CE f X W ca a ma) (hg : PG X tg t) (hd : TgDs f t g) (hb : CBs f X W cb body ms)
    (hs : ∀ x, foldedSetIterable a X.env x = pure x := by intro _; rfl) (h0 : cb = 0 := by rfl) : CS f X W ca (.For tg a body [] pos) (mForT ma g ms) := by
  subst h0; exact
  PS.imp (ps_for hp hc (pi_tup hi) hg hb.ps hs) fun De σ H h => by
    obtain ⟨B, n, ρ, E, R, hm, hn, hr, hbk, hct, hx⟩ := h
    refine rd_i (m := n) R hm (fun d v H1 h1 e1 R1 r1 => ?_) fun x cls dd H' q e s er => hx B x cls dd σ H' ρ q (R.kp e s) er
    cases r1 with
    | tup ha nb rs => exact ⟨_, rfl, ⟨_, .inl (.inl ha)⟩, for_coreT (n := n) (cb := 0) hd (Nat.le_refl _) (by rw [Nat.mul_zero]; exact R1) h1 rs X.K (.inl ⟨ha, nb⟩) hn hr hx⟩
    | wtup ha rs => exact ⟨_, rfl, ⟨_, .inr (hK ▸ ha)⟩, for_coreT (n := n) (cb := 0) hd (Nat.le_refl _) (by rw [Nat.mul_zero]; exact R1) h1 rs X.K (.inr (hK ▸ ha)) hn hr hx⟩
    | _ => exact h1.elim
theorem cs_range1 {tg : Expr} {t : TG} {g : MG} {p cpos : Pos} (hp : PassesOwn (model X.prog X.w) X.A X.env X.xe) (hc : X.calm = true) (hgl : Gl X "range") (hmg : X.mg "range" = none) (hi : CE f X W ca a ma) (hg : PG X tg t) (hd : TgDs f t g) (hb : CBs f X W cb body ms)
    (ha : starEach [a] X.env = [(false, eval a X.env)] := by rfl) (hs : ∀ x, foldedSetIterable (.Call (.Name "range" p) [a] [] cpos) X.env x = pure x := by intro _; rfl) : CS f X W (ca + 2 ^ 62 * cb) (.For tg (.Call (.Name "range" p) [a] [] cpos) body [] pos) (mForR1 ma g ms) :=
  PS.imp (ps_for hp hc (pi_range1 hgl hmg (ca_cons hi ca_nil ha) ha) hg hb.ps hs) fun De σ H h => by
    obtain ⟨B, n, ρ, E, R, hm, hn, hr, hbk, hct, hx⟩ := h
    refine ra_i (m := n + 2 ^ 62 * cb) (Q0 := fun ds => ∃ d, ds = [d] ∧ asI d fun j => (-(2 ^ 62) ≤ j ∧ j < 2 ^ 62) ∧ mForL g ms (rngD 0 j.toNat) ρ E) (W0 := E.ex ρ) (R.mono (by omega)) ?_ (fun ds vs H1 h1 e1 R1 r1 => ?_) fun x cls dd H' q e s er => hx B x cls dd σ H' ρ q (R.kp e (s.mono (by omega))) er
    · show ma ρ (fun x => ∃ d, [x] = [d] ∧ _) _
      have e : (fun x : Hm.D => ∃ d, [x] = [d] ∧ asI d fun j => (-(2 ^ 62) ≤ j ∧ j < 2 ^ 62) ∧ mForL g ms (rngD 0 j.toNat) ρ E) = (fun x => asI x fun j => (-(2 ^ 62) ≤ j ∧ j < 2 ^ 62) ∧ mForL g ms (rngD 0 j.toNat) ρ E) := by
        funext x
        apply propext
        constructor
        · rintro ⟨d, e, q⟩
          injection e with e _
          subst e
          exact q
        · exact fun q => ⟨x, rfl, q⟩
      rw [e]
      exact hm
    · obtain ⟨d, rfl, q⟩ := h1
      cases r1 with
      | cons r1 r2 =>
        cases r2
        cases r1 with
        | int j => exact ⟨j, rfl, q.1.1, q.1.2, for_coreR (n := n) (cb := cb) (L := 2 ^ 62) (lo := 0) hd (by have := q.1.2; omega) R1 q.2 hn hr hx⟩
        | _ => exact q.elim
theorem cs_range2 {tg : Expr} {t : TG} {g : MG} {p cpos : Pos} (hp : PassesOwn (model X.prog X.w) X.A X.env X.xe) (hc : X.calm = true) (hgl : Gl X "range") (hmg : X.mg "range" = none) (hi : CE f X W ca a ma) (hj : CE f X W cc b mb) (hg : PG X tg t) (hd : TgDs f t g) (hb : CBs f X W cb body ms)
    (ha : starEach [a, b] X.env = [(false, eval a X.env), (false, eval b X.env)] := by rfl) (ha2 : starEach [b] X.env = [(false, eval b X.env)] := by rfl) (hs : ∀ x, foldedSetIterable (.Call (.Name "range" p) [a, b] [] cpos) X.env x = pure x := by intro _; rfl) :
    CS f X W (ca + (cc + 0) + 2 ^ 63 * cb) (.For tg (.Call (.Name "range" p) [a, b] [] cpos) body [] pos) (mForR2 ma mb g ms) :=
  PS.imp (ps_for hp hc (pi_range2 hgl hmg (ca_cons hi (ca_cons hj ca_nil ha2) (ha.trans (by rw [ha2]))) ha ha2) hg hb.ps hs) fun De σ H h => by
    obtain ⟨B, n, ρ, E, R, hm, hn, hr, hbk, hct, hx⟩ := h
    refine ra_i (m := n + 2 ^ 63 * cb) (Q0 := fun ds => ∃ x y, ds = [x, y] ∧ asI x fun i => asI y fun j => (-(2 ^ 62) ≤ i ∧ i < 2 ^ 62 ∧ -(2 ^ 62) ≤ j ∧ j < 2 ^ 62) ∧ mForL g ms (rngD i (j - i).toNat) ρ E) (W0 := E.ex ρ) (R.mono (by omega)) ?_ (fun ds vs H1 h1 e1 R1 r1 => ?_) fun x cls dd H' q e s er => hx B x cls dd σ H' ρ q (R.kp e (s.mono (by omega))) er
    · show ma ρ (fun x => mb ρ (fun y => ∃ u v, [x, y] = [u, v] ∧ _) _) _
      have e : (fun x => mb ρ (fun y : Hm.D => ∃ u v, [x, y] = [u, v] ∧ asI u fun i => asI v fun j => (-(2 ^ 62) ≤ i ∧ i < 2 ^ 62 ∧ -(2 ^ 62) ≤ j ∧ j < 2 ^ 62) ∧ mForL g ms (rngD i (j - i).toNat) ρ E) (E.ex ρ)) = (fun x => mb ρ (fun y : Hm.D => asI x fun i => asI y fun j => (-(2 ^ 62) ≤ i ∧ i < 2 ^ 62 ∧ -(2 ^ 62) ≤ j ∧ j < 2 ^ 62) ∧ mForL g ms (rngD i (j - i).toNat) ρ E) (E.ex ρ)) := by
        funext x
        congr 1
        funext y
        apply propext
        constructor
        · rintro ⟨u, v, e, q⟩
          injection e with e1 e2
          injection e2 with e2 _
          subst e1; subst e2
          exact q
        · exact fun q => ⟨x, y, rfl, q⟩
      rw [e]
      exact hm
    · obtain ⟨x, y, rfl, q⟩ := h1
      cases r1 with
      | cons r1 r2 =>
        cases r2 with
        | cons r2 r3 =>
          cases r3
          cases r1 with
          | int i =>
            cases r2 with
            | int j => exact ⟨i, j, rfl, q.1, for_coreR (n := n) (cb := cb) (L := 2 ^ 63) (lo := i) hd (by have := q.1; omega) R1 q.2 hn hr hx⟩
            | _ => exact q.elim
          | _ => exact q.elim
/-- while, no draws within -/
theorem cs_while {t : Expr} {ct cb : Nat} (hp : PassesOwn (model X.prog X.w) X.A X.env X.xe) (ht : CT f X W ct t tc) (hb : CB f X W cb body ms) (h1 : ct = 0 := by rfl) (h2 : cb = 0 := by rfl) : CS f X W 0 (.While t body [] pos) (mWhile tc ms) := by
  subst h1; subst h2; exact
  PS.imp (ps_while hp ht hb) fun De σ H h => by
    obtain ⟨B, n, ρ, E, R, ⟨Wd, ⟨m0, w0⟩, turn⟩, hn, hr, hbk, hct, hx⟩ := h
    refine ⟨fun m σ' H' => ∃ B' ρ', Rel f B' σ' H' ρ' n ∧ Wd m ρ', ⟨m0, B, ρ, R, w0⟩, fun m σ' H' hW => ?_⟩
    obtain ⟨B', ρ', R', w'⟩ := hW
    refine rt_i (m := n) (B := B') R' (turn m ρ' w') (fun x H1 h1 e1 R1 => ?_) fun x cls dd H2 q e s er => hx B' x cls dd σ' H2 ρ' q (R'.kp e s) er
    cases x with
    | true =>
      rw [if_pos rfl] at h1 ⊢
      refine ⟨fun σ2 H2 => ∃ m', m' < m ∧ ∃ B2 ρ2, Rel f B2 σ2 H2 ρ2 n ∧ Wd m' ρ2, fun σ2 H2 q => q, B', n, ρ', _, R1, h1, ?_, hr, hn, ?_, hx⟩
      · rintro B2 σ2 H2 ρ2 ⟨m', hm, w2⟩ R2
        exact ⟨m', hm, B2, ρ2, R2, w2⟩
      · rintro B2 σ2 H2 ρ2 ⟨m', hm, w2⟩ R2
        exact ⟨m', hm, B2, ρ2, R2, w2⟩
    | false =>
      rw [if_neg Bool.false_ne_true] at h1 ⊢
      exact hn B' σ' H1 ρ' h1 R1
end
end Hm
set_option Elab.async false
set_option linter.all false
set_option maxRecDepth 100000
set_option maxHeartbeats 2000000
namespace Hm
open PySem L2

/-! ### data as the model's data -/
mutual
def D.py : D → PyData
  | .non => .none
  | .bl b => .bool b
  | .int i => .int i
  | .str s => .str s
  | .tup xs => .tuple (pys xs)
  | .lst xs => .list (pys xs)
  | _ => .none
def pys : List D → List PyData
  | [] => []
  | x :: r => x.py :: pys r
end
mutual
def D.pure : D → Bool
  | .non => true
  | .bl _ => true
  | .int _ => true
  | .str _ => true
  | .tup xs => pures xs
  | .lst xs => pures xs
  | _ => false
def pures : List D → Bool
  | [] => true
  | x :: r => x.pure && pures r
end
def D.okE (d : D) : Bool := d.pure && SeqAt.shaped d.py
def D.eqv (x y : D) : Bool := PyData.eqv x.py y.py
section
variable {g : Gc} {B : Addr → Prop} {H : Hp}
mutual
theorem Rep.dp : ∀ {v : V} {d : D}, Rep g B H v d → d.pure = true → Dp g.K H v d.py
  | _, _, .non, _ => .non
  | _, _, .bl b, _ => .bl b
  | _, _, .int i, _ => .int i
  | _, _, .str s, _ => .str s
  | _, _, .tup h n r, p => .tup (.inl (.inl h)) (Reps.dp r p)
  | _, _, .wtup h r, p => .tup (.inr h) (Reps.dp r p)
  | _, _, .lst h n r, p => .lst (.inl (.inl h)) (Reps.dp r p)
  | _, _, .dct h n r, p => Bool.noConfusion p
  | _, _, .exc0 e h n, p => Bool.noConfusion p
  | _, _, .exc1 e h n h2 n2 r q, p => Bool.noConfusion p
  | _, _, .src e, p => Bool.noConfusion p
  | _, _, .obj e h n r, p => Bool.noConfusion p
theorem Reps.dp : ∀ {vs : List V} {ds : List D}, Reps g B H vs ds → pures ds = true → DpAll g.K H vs (pys ds)
  | _, _, .nil, _ => .nil
  | _, _, .cons r t, p => by
    have p' := Bool.and_eq_true_iff.mp (show (_ && _) = true from p)
    exact .cons (Rep.dp r p'.1) (Reps.dp t p'.2)
end
end

/-! ### operations on data -/
def D.scal : D → D → Bool
  | .non, .non => true | .non, .int _ => true | .int _, .non => true | .non, .bl _ => true | .bl _, .non => true | .non, .str _ => true | .str _, .non => true
  | .int _, .int _ => true | .bl _, .bl _ => true | .str _, .str _ => true
  | .int _, .str _ => true | .str _, .int _ => true | .bl _, .str _ => true | .str _, .bl _ => true
  | _, _ => false
def D.seq : D → D → Bool
  | .non, .non => true
  | .int i, .int j => decide (i = j)
  | .bl a, .bl b => decide (a = b)
  | .str a, .str b => decide (a = b)
  | _, _ => false
def dEq (x y : D) (Q : DK) : Prop := if D.scal x y = true then Q (.bl (D.seq x y)) else x.okE = true ∧ y.okE = true ∧ Q (.bl (x.eqv y))
def dNe (x y : D) (Q : DK) : Prop := if D.scal x y = true then Q (.bl (!D.seq x y)) else x.okE = true ∧ y.okE = true ∧ Q (.bl (!x.eqv y))
def dCmp (p : Int → Int → Bool) : D → D → DK → Prop
  | .int i, .int j, Q => Q (.bl (p i j))
  | _, _, _ => False
abbrev dLt := dCmp fun i j => decide (i < j)
abbrev dLe := dCmp fun i j => decide (i ≤ j)
abbrev dGt := dCmp fun i j => decide (j < i)
abbrev dGe := dCmp fun i j => decide (j ≤ i)
def dAdd : D → D → DK → Prop
  | .int i, .int j, Q => Q (.int (i + j))
  | .str a, .str b, Q => a.length + b.length ≤ sizeLine ∧ Q (.str (a ++ b))
  | .lst a, .lst b, Q => a.length + b.length ≤ sizeLine ∧ Q (.lst (a ++ b))
  | .tup a, .tup b, Q => a.length + b.length ≤ sizeLine ∧ Q (.tup (a ++ b))
  | _, _, _ => False
def dSub : D → D → DK → Prop
  | .int i, .int j, Q => Q (.int (i - j))
  | _, _, _ => False
def dMul : D → D → DK → Prop
  | .int i, .int j, Q => CMulW i j ∧ Q (.int (i * j))
  | .lst a, .int k, Q => (-(2 ^ 63) ≤ k ∧ k < 2 ^ 63 ∧ a.length * k.toNat ≤ sizeLine) ∧ Q (.lst (List.replicate k.toNat a).flatten)
  | _, _, _ => False
def dMod : D → D → DK → Prop
  | .int i, .int j, Q => 0 < j ∧ Q (.int (i % j))
  | _, _, _ => False
def dDiv : D → D → DK → Prop
  | .int i, .int j, Q => CDivW i j ∧ Q (.int (i / j))
  | _, _, _ => False
def CPowW (i j : Int) : Prop := 0 ≤ j ∧ (Builtin.Int.intBits i : Int) * j ≤ 2 ^ 27
def dPow : D → D → DK → Prop
  | .int i, .int j, Q => CPowW i j ∧ Q (.int (i ^ j.toNat))
  | _, _, _ => False
def dNeg : D → DK → Prop
  | .int i, Q => Q (.int (-i))
  | _, _ => False
def D.isN : D → Bool
  | .non => true
  | _ => false
def dIs : D → D → DK → Prop
  | x, .non, Q => Q (.bl x.isN)
  | _, _, _ => False
def dIsNot : D → D → DK → Prop
  | x, .non, Q => Q (.bl (!x.isN))
  | _, _, _ => False
def D.flat : D → Bool
  | .non => true
  | .bl _ => true
  | .int _ => true
  | .str _ => true
  | _ => false
def D.eqF : D → D → Bool
  | .non, .non => true
  | .bl a, .bl b => a == b
  | .bl a, .int b => (if a then 1 else 0) == b
  | .int a, .bl b => a == (if b then 1 else 0)
  | .int a, .int b => a == b
  | .str a, .str b => a == b
  | _, _ => false
def D.isIn (x : D) (xs : List D) : Bool := xs.any fun y => D.eqF y x
def dInN (neg : Bool) : D → D → DK → Prop
  | x, .lst xs, Q => x.flat = true ∧ xs.all D.flat = true ∧ Q (.bl (if neg then !D.isIn x xs else D.isIn x xs))
  | x, .tup xs, Q => x.flat = true ∧ xs.all D.flat = true ∧ Q (.bl (if neg then !D.isIn x xs else D.isIn x xs))
  | _, _, _ => False
abbrev dIn := dInN false
abbrev dNotIn := dInN true
def dIx (x y : D) (Q : DK) : Prop := match x, y with
  | .lst xs, .int i => ∃ d, atI xs i = some d ∧ Q d
  | .tup xs, .int i => ∃ d, atI xs i = some d ∧ Q d
  | .str z, .int i => ∃ c, z.length ≤ sizeLine ∧ atI z.cps.toList i = some c ∧ Q (.str ⟨#[c]⟩)
  | _, _ => False
def cutD (xs : List D) (lo hi : Option Int) : List D := (xs.drop (HT.sIx xs.length 0 lo)).take (HT.sIx xs.length xs.length hi - HT.sIx xs.length 0 lo)

section
variable {K : PySem.W.Frag} {X : Cx}
/-- the answer is a plain one -/
theorem od_plain {r : R2} {op : D → D → DK → Prop} (h : ∀ (g : Gc) (B : Addr → Prop) (H : Hp) (vx vy : V) (x y : D) (Q0 : DK) (Q : VK), g.K = K → Rep g B H vx x → Rep g B H vy y → op x y Q0 → (∀ d v, Q0 d → Rep g B H v d → Q v H) → r vx vy H Q) : OpD K r op :=
  fun g B H vx vy x y Q0 Q hK dom rx ry h1 k => h g B H vx vy x y Q0 Q hK rx ry h1 fun d v q r => k d v H q (Gw.refl H) r
theorem od_cmp (p : Int → Int → Bool) : OpD K (rI0 fun i j => .bl (p i j)) (dCmp p) := od_plain fun g B H vx vy x y Q0 Q hK rx ry h k => by
  cases rx with
  | int i =>
    cases ry with
    | int j => exact ⟨i, j, rfl, rfl, k _ _ h (.bl _)⟩
    | _ => exact h.elim
  | _ => exact h.elim
theorem od_sub : OpD K (rI0 fun i j => .int (i - j)) dSub := od_plain fun g B H vx vy x y Q0 Q hK rx ry h k => by
  cases rx with
  | int i =>
    cases ry with
    | int j => exact ⟨i, j, rfl, rfl, k _ _ h (.int _)⟩
    | _ => exact h.elim
  | _ => exact h.elim
theorem od_mod : OpD K (rI (fun _ j => 0 < j) fun i j => .int (i % j)) dMod := od_plain fun g B H vx vy x y Q0 Q hK rx ry h k => by
  cases rx with
  | int i =>
    cases ry with
    | int j => exact ⟨i, j, rfl, rfl, h.1, k _ _ h.2 (.int _)⟩
    | _ => exact h.elim
  | _ => exact h.elim
theorem od_div : OpD K (rI CDivW fun i j => .int (i / j)) dDiv := od_plain fun g B H vx vy x y Q0 Q hK rx ry h k => by
  cases rx with
  | int i =>
    cases ry with
    | int j => exact ⟨i, j, rfl, rfl, h.1, k _ _ h.2 (.int _)⟩
    | _ => exact h.elim
  | _ => exact h.elim
theorem op_powW : OpR X (binaryOp .Pow) (rI CPowW fun i j => .int (i ^ j.toNat)) := opI fun _ _ _ _ _ _ _ hc q => PyProof.Rows.pow_int hc.1 hc.2 q
theorem od_pow : OpD K (rI CPowW fun i j => .int (i ^ j.toNat)) dPow := od_plain fun g B H vx vy x y Q0 Q hK rx ry h k => by
  cases rx with
  | int i =>
    cases ry with
    | int j => exact ⟨i, j, rfl, rfl, h.1, k _ _ h.2 (.int _)⟩
    | _ => exact h.elim
  | _ => exact h.elim
theorem ud_neg : UnD K (rU fun i => .int (-i)) dNeg := fun g B H vx x Q0 Q hK dom rx h k => by
  cases rx with
  | int i => exact ⟨i, rfl, k _ _ H h (Gw.refl H) (.int _)⟩
  | _ => exact h.elim
def rAddD (K : PySem.W.Frag) : R2 := fun x y H Q => (rI0 fun i j => .int (i + j)) x y H Q ∨ (∃ i j, x = .str i ∧ y = .str j ∧ i.length + j.length ≤ sizeLine ∧ Q (.str (i ++ j)) H) ∨ rCat x y H Q ∨ rCatA K x y H Q
theorem op_addD : OpR X (binaryOp .Add) (rAddD X.K) := OpR.or op_add (OpR.or op_add_str (OpR.or op_cat op_catA))
theorem Rep.tupOf {g : Gc} {B : Addr → Prop} {H : Hp} {v : V} {ds : List D} (r : Rep g B H v (.tup ds)) : ∃ a xs, v = .ref a ∧ SqT g.K H a xs ∧ Reps g B H xs ds := by
  cases r with
  | tup h n q => exact ⟨_, _, rfl, .inl (.inl h), q⟩
  | wtup h q => exact ⟨_, _, rfl, .inr h, q⟩
theorem nil_of {g : Gc} {B : Addr → Prop} {H : Hp} {xs : List V} {ds : List D} (r : Reps g B H xs ds) (h : xs = []) : ds = [] := by
  subst h; cases r; rfl
theorem od_add : OpD K (rAddD K) dAdd := fun g B H vx vy x y Q0 Q hK dom rx ry h k => by
  subst hK
  cases x with
  | int i =>
    cases y with
    | int j => cases rx; cases ry; exact .inl ⟨i, j, rfl, rfl, k _ _ H h (Gw.refl H) (.int _)⟩
    | _ => exact h.elim
  | str i =>
    cases y with
    | str j => cases rx; cases ry; exact .inr (.inl ⟨i, j, rfl, rfl, h.1, k _ _ H h.2 (Gw.refl H) (.str _)⟩)
    | _ => exact h.elim
  | lst i =>
    cases y with
    | lst j =>
      cases rx with
      | lst h1 n1 r1 =>
        cases ry with
        | lst h2 n2 r2 =>
          refine .inr (.inr (.inl ⟨_, _, _, _, rfl, rfl, h1, h2, by rw [r1.length, r2.length]; exact h.1, fun p hp => ?_⟩))
          exact k _ _ _ h.2 (Gw.new hp) (.lst upd_same (nB dom hp) ((r1.append r2).grow (Gw.new hp)))
    | _ => exact h.elim
  | tup i =>
    cases y with
    | tup j =>
      obtain ⟨a, xs, e1, h1, r1⟩ := rx.tupOf
      obtain ⟨b, ys, e2, h2, r2⟩ := ry.tupOf
      subst e1; subst e2
      refine .inr (.inr (.inr ⟨a, b, xs, ys, rfl, rfl, h1, h2, by rw [r1.length, r2.length]; exact h.1, fun e => ?_, fun _ e => ?_, fun _ _ p hp => ?_⟩))
      · have := nil_of r1 e
        subst this
        exact k _ _ H h.2 (Gw.refl H) ry
      · have := nil_of r2 e
        subst this
        have h2 : Q0 (.tup (i ++ [])) := h.2
        rw [List.append_nil] at h2
        exact k _ _ H h2 (Gw.refl H) rx
      · exact k _ _ _ h.2 (Gw.new hp) (.tup upd_same (nB dom hp) ((r1.append r2).grow (Gw.new hp)))
    | _ => exact h.elim
  | _ => exact h.elim
theorem Reps.flat {g : Gc} {B : Addr → Prop} {H : Hp} {vs : List V} {ds : List D} (r : Reps g B H vs ds) : ∀ k, Reps g B H (List.replicate k vs).flatten (List.replicate k ds).flatten
  | 0 => .nil
  | k + 1 => by
    rw [List.replicate_succ, List.replicate_succ, List.flatten_cons, List.flatten_cons]
    exact r.append (Reps.flat r k)
def rMulD : R2 := fun x y H Q => (rI CMulW fun i j => .int (i * j)) x y H Q ∨ rRep x y H Q
theorem op_mulD : OpR X (binaryOp .Mult) rMulD := OpR.or op_mulW op_rep
theorem od_mul : OpD K rMulD dMul := fun g B H vx vy x y Q0 Q hK dom rx ry h k => by
  cases rx with
  | int i =>
    cases ry with
    | int j => exact .inl ⟨i, j, rfl, rfl, h.1, k _ _ H h.2 (Gw.refl H) (.int _)⟩
    | _ => exact h.elim
  | lst h1 n1 r1 =>
    cases ry with
    | int j =>
      refine .inr ⟨_, j, _, rfl, rfl, h1, h.1.1, h.1.2.1, by rw [r1.length]; exact h.1.2.2, fun p hp => ?_⟩
      exact k _ _ _ h.2 (Gw.new hp) (.lst upd_same (nB dom hp) ((r1.flat _).grow (Gw.new hp)))
    | _ => exact h.elim
  | _ => exact h.elim
theorem Rep.isN {g : Gc} {B : Addr → Prop} {H : Hp} {v : V} {d : D} (r : Rep g B H v d) : decide (v = .non) = d.isN := by
  cases r <;> rfl
theorem od_is : OpD K (fun x y H Q => y = .non ∧ Q (.bl (decide (x = .non))) H) dIs := od_plain fun g B H vx vy x y Q0 Q hK rx ry h k => by
  cases ry with
  | non => exact ⟨rfl, by rw [rx.isN]; exact k _ _ h (.bl _)⟩
  | _ => exact h.elim
theorem od_isNot : OpD K (fun x y H Q => y = .non ∧ Q (.bl (!decide (x = .non))) H) dIsNot := od_plain fun g B H vx vy x y Q0 Q hK rx ry h k => by
  cases ry with
  | non => exact ⟨rfl, by rw [rx.isN]; exact k _ _ h (.bl _)⟩
  | _ => exact h.elim
theorem Rep.scal {g : Gc} {B : Addr → Prop} {H : Hp} {v u : V} {d e : D} (r : Rep g B H v d) (q : Rep g B H u e) (h : D.scal d e = true) : L2.scal v u = true ∧ decide (v = u) = D.seq d e := by
  cases r <;> cases q <;> first | exact Bool.noConfusion h | (refine ⟨rfl, ?_⟩; first | rfl | (rw [Bool.eq_iff_iff]; simp [D.seq]))
def rEqDD (K : PySem.W.Frag) : R2 := fun x y H Q => rEq x y H Q ∨ rEqD K x y H Q
def rNeDD (K : PySem.W.Frag) : R2 := fun x y H Q => rNe x y H Q ∨ rNeD K x y H Q
theorem op_eqDD (hu : X.A.units + 64 < cLine) : OpR X (compareOp .Eq) (rEqDD X.K) := OpR.or op_eq (op_eqD hu)
theorem op_neDD (hu : X.A.units + 64 < cLine) : OpR X (compareOp .NotEq) (rNeDD X.K) := OpR.or op_ne (op_neD hu)
theorem od_eq : OpD K (rEqDD K) dEq := od_plain fun g B H vx vy x y Q0 Q hK rx ry h k => by
  subst hK
  unfold dEq at h
  by_cases c : D.scal x y = true
  · rw [if_pos c] at h
    obtain ⟨h1, h2⟩ := rx.scal ry c
    exact .inl ⟨h1, by rw [h2]; exact k _ _ h (.bl _)⟩
  · rw [if_neg c] at h
    obtain ⟨h1, h2, h3⟩ := h
    have p1 := Bool.and_eq_true_iff.mp h1
    have p2 := Bool.and_eq_true_iff.mp h2
    exact .inr ⟨x.py, y.py, rx.dp p1.1, ry.dp p2.1, p1.2, p2.2, k _ _ h3 (.bl _)⟩
theorem od_ne : OpD K (rNeDD K) dNe := od_plain fun g B H vx vy x y Q0 Q hK rx ry h k => by
  subst hK
  unfold dNe at h
  by_cases c : D.scal x y = true
  · rw [if_pos c] at h
    obtain ⟨h1, h2⟩ := rx.scal ry c
    exact .inl ⟨h1, by rw [h2]; exact k _ _ h (.bl _)⟩
  · rw [if_neg c] at h
    obtain ⟨h1, h2, h3⟩ := h
    have p1 := Bool.and_eq_true_iff.mp h1
    have p2 := Bool.and_eq_true_iff.mp h2
    exact .inr ⟨x.py, y.py, rx.dp p1.1, ry.dp p2.1, p1.2, p2.2, k _ _ h3 (.bl _)⟩
theorem Rep.flatV {g : Gc} {B : Addr → Prop} {H : Hp} {v : V} {d : D} (r : Rep g B H v d) (h : d.flat = true) : L2.flatV v = true := by
  cases r <;> first | rfl | exact Bool.noConfusion h
theorem Rep.eqF {g : Gc} {B : Addr → Prop} {H : Hp} {v u : V} {d e : D} (r : Rep g B H v d) (q : Rep g B H u e) (h : d.flat = true) (h' : e.flat = true) : L2.eqV v u = D.eqF d e := by
  cases r <;> first | exact Bool.noConfusion h | (cases q <;> first | exact Bool.noConfusion h' | rfl)
theorem Reps.inV {g : Gc} {B : Addr → Prop} {H : Hp} {u : V} {e : D} (q : Rep g B H u e) (h' : e.flat = true) : ∀ {vs : List V} {ds : List D}, Reps g B H vs ds → ds.all D.flat = true → vs.all L2.flatV = true ∧ L2.inV u vs = D.isIn e ds
  | _, _, .nil, _ => ⟨rfl, rfl⟩
  | _, _, .cons r t, h => by
    rw [List.all_cons, Bool.and_eq_true] at h
    obtain ⟨h1, h2⟩ := Reps.inV q h' t h.2
    refine ⟨by rw [List.all_cons, r.flatV h.1, h1]; rfl, ?_⟩
    unfold L2.inV D.isIn at h2 ⊢
    rw [List.any_cons, List.any_cons, r.eqF q h.1 h', h2]
theorem od_in (neg : Bool) : OpD K (rIn K neg) (dInN neg) := od_plain fun g B H vx vy x y Q0 Q hK rx ry h k => by
  subst hK
  cases ry with
  | lst h1 n1 r1 =>
    obtain ⟨p1, p2⟩ := r1.inV rx h.1 h.2.1
    exact ⟨_, _, rfl, .inl (.inl (.inl h1)), rx.flatV h.1, p1, by rw [p2]; exact k _ _ h.2.2 (.bl _)⟩
  | tup h1 n1 r1 =>
    obtain ⟨p1, p2⟩ := r1.inV rx h.1 h.2.1
    exact ⟨_, _, rfl, .inr (.inl (.inl h1)), rx.flatV h.1, p1, by rw [p2]; exact k _ _ h.2.2 (.bl _)⟩
  | wtup h1 r1 =>
    obtain ⟨p1, p2⟩ := r1.inV rx h.1 h.2.1
    exact ⟨_, _, rfl, .inr (.inr h1), rx.flatV h.1, p1, by rw [p2]; exact k _ _ h.2.2 (.bl _)⟩
  | _ => exact h.elim
theorem Reps.atI {g : Gc} {B : Addr → Prop} {H : Hp} {vs : List V} {ds : List D} {i : Int} {d : D} (r : Reps g B H vs ds) (h : L2.atI ds i = some d) : ∃ v, L2.atI vs i = some v ∧ Rep g B H v d := by
  unfold L2.atI at h ⊢
  rw [r.length]
  cases e : ixN ds.length i with
  | none => rw [e] at h; cases h
  | some j =>
    rw [e] at h
    obtain ⟨v, h1, h2⟩ := r.get (show ds[j]? = some d from h)
    exact ⟨v, h1, h2⟩
theorem od_ix : OpD K (rIx K) dIx := od_plain fun g B H vx vy x y Q0 Q hK rx ry h k => by
  subst hK
  cases rx with
  | lst h1 n1 r1 =>
    cases ry with
    | int i =>
      obtain ⟨d, h2, h3⟩ := h
      obtain ⟨v, e, r⟩ := r1.atI h2
      exact .inl ⟨_, _, i, v, rfl, rfl, .inl (.inl h1), e, k _ _ h3 r⟩
    | _ => exact h.elim
  | tup h1 n1 r1 =>
    cases ry with
    | int i =>
      obtain ⟨d, h2, h3⟩ := h
      obtain ⟨v, e, r⟩ := r1.atI h2
      exact .inr (.inl ⟨_, _, i, v, rfl, rfl, .inl (.inl h1), e, k _ _ h3 r⟩)
    | _ => exact h.elim
  | wtup h1 r1 =>
    cases ry with
    | int i =>
      obtain ⟨d, h2, h3⟩ := h
      obtain ⟨v, e, r⟩ := r1.atI h2
      exact .inr (.inl ⟨_, _, i, v, rfl, rfl, .inr h1, e, k _ _ h3 r⟩)
    | _ => exact h.elim
  | str z =>
    cases ry with
    | int i =>
      obtain ⟨c, h1, h2, h3⟩ := h
      exact .inr (.inr ⟨z, i, c, rfl, rfl, h1, h2, k _ _ h3 (.str _)⟩)
    | _ => exact h.elim
  | _ => exact h.elim
end
end Hm
set_option Elab.async false
set_option linter.all false
set_option maxRecDepth 100000
set_option maxHeartbeats 2000000
namespace Hm
open PySem L2

/-! ### built-ins -/
def dLen : List D → DK → Prop
  | [.lst ys], Q => Q (.int ys.length)
  | [.tup ys], Q => Q (.int ys.length)
  | [.str s], Q => s.length ≤ sizeLine ∧ Q (.int s.length)
  | _, _ => False
def dAbs : List D → DK → Prop
  | [.int i], Q => Q (.int (if i < 0 then -i else i))
  | _, _ => False
def dInt : List D → DK → Prop
  | [.int i], Q => Q (.int i)
  | [.bl k], Q => Q (.int (if k then 1 else 0))
  | _, _ => False
def dMax2 : List D → DK → Prop
  | [.int i, .int j], Q => Q (.int (if j > i then j else i))
  | _, _ => False
def dMin2 : List D → DK → Prop
  | [.int i, .int j], Q => Q (.int (if j < i then j else i))
  | _, _ => False
def dList : List D → DK → Prop
  | [.lst ys], Q => Q (.lst ys)
  | [.tup ys], Q => Q (.lst ys)
  | _, _ => False
section
variable {K : PySem.W.Frag}
theorem cd_plain {r : List V → Hp → VK → Prop} {op : List D → DK → Prop} (h : ∀ (g : Gc) (B : Addr → Prop) (H : Hp) (vs : List V) (xs : List D) (Q0 : DK) (Q : VK), g.K = K → Reps g B H vs xs → op xs Q0 → (∀ d v, Q0 d → Rep g B H v d → Q v H) → r vs H Q) : CallD K r op :=
  fun g B H vs xs Q0 Q hK dom rx h1 k => h g B H vs xs Q0 Q hK rx h1 fun d v q r => k d v H q (Gw.refl H) r
theorem cd_len : CallD K (fun xs H Q => ∃ x n, xs = [x] ∧ LenV K x H n ∧ Q (.int n) H) dLen := cd_plain fun g B H vs xs Q0 Q hK rx h k => by
  subst hK
  cases rx with
  | nil => exact h.elim
  | cons r t =>
    cases t with
    | cons _ _ => cases r <;> exact h.elim
    | nil =>
      cases r with
      | str s => exact ⟨_, _, rfl, ⟨h.1, rfl⟩, k _ _ h.2 (.int _)⟩
      | lst h1 n1 r1 => exact ⟨_, _, rfl, .inl ⟨_, .inl (.inl h1), rfl⟩, by rw [r1.length]; exact k _ _ h (.int _)⟩
      | tup h1 n1 r1 => exact ⟨_, _, rfl, .inr ⟨_, .inl (.inl h1), rfl⟩, by rw [r1.length]; exact k _ _ h (.int _)⟩
      | wtup h1 r1 => exact ⟨_, _, rfl, .inr ⟨_, .inr h1, rfl⟩, by rw [r1.length]; exact k _ _ h (.int _)⟩
      | _ => exact h.elim
theorem cd_abs : CallD K (fun xs H Q => ∃ i, xs = [.int i] ∧ Q (.int (if i < 0 then -i else i)) H) dAbs := cd_plain fun g B H vs xs Q0 Q hK rx h k => by
  cases rx with
  | nil => exact h.elim
  | cons r t =>
    cases t with
    | cons _ _ => cases r <;> exact h.elim
    | nil =>
      cases r with
      | int i => exact ⟨i, rfl, k _ _ h (.int _)⟩
      | _ => exact h.elim
theorem cd_int : CallD K (fun xs H Q => (∃ i, xs = [.int i] ∧ Q (.int i) H) ∨ ∃ k, xs = [.bl k] ∧ Q (.int (if k then 1 else 0)) H) dInt := cd_plain fun g B H vs xs Q0 Q hK rx h k => by
  cases rx with
  | nil => exact h.elim
  | cons r t =>
    cases t with
    | cons _ _ => cases r <;> exact h.elim
    | nil =>
      cases r with
      | int i => exact .inl ⟨i, rfl, k _ _ h (.int _)⟩
      | bl i => exact .inr ⟨i, rfl, k _ _ h (.int _)⟩
      | _ => exact h.elim
theorem cd_max2 : CallD K (fun xs H Q => ∃ i j, xs = [.int i, .int j] ∧ Q (.int (if j > i then j else i)) H) dMax2 := cd_plain fun g B H vs xs Q0 Q hK rx h k => by
  unfold dMax2 at h
  split at h
  · cases rx with
    | cons r t => cases t with
      | cons r2 t2 => cases t2; cases r; cases r2; exact ⟨_, _, rfl, k _ _ h (.int _)⟩
  · exact h.elim
theorem cd_min2 : CallD K (fun xs H Q => ∃ i j, xs = [.int i, .int j] ∧ Q (.int (if j < i then j else i)) H) dMin2 := cd_plain fun g B H vs xs Q0 Q hK rx h k => by
  unfold dMin2 at h
  split at h
  · cases rx with
    | cons r t => cases t with
      | cons r2 t2 => cases t2; cases r; cases r2; exact ⟨_, _, rfl, k _ _ h (.int _)⟩
  · exact h.elim
end

/-! ### isinstance against a built-in class -/
def D.tyS : D → Option String
  | .non => some "NoneType"
  | .bl _ => some "bool"
  | .int _ => some "int"
  | .str _ => some "str"
  | .tup _ => some "tuple"
  | .lst _ => some "list"
  | .dct _ => some "dict"
  | _ => none
def isiO (T : String) : Option String → Bool
  | some a => a == T || (a == "bool" && T == "int")
  | none => false
def D.isi (T : String) (d : D) : Bool := isiO T d.tyS
def dIsi (T : String) (x : D) (Q : DK) : Prop := x.tyS.isSome = true ∧ Q (.bl (x.isi T))
theorem Rep.ty {g : Gc} {B : Addr → Prop} {H : Hp} {v : V} {d : D} {a : String} (r : Rep g B H v d) (h : d.tyS = some a) : TyX g.K H v (.type a) := by
  cases r with
  | non => cases h; exact .base .non
  | bl b => cases h; exact .base (.bl b)
  | int i => cases h; exact .base (.int i)
  | str s => cases h; exact .base (.str s)
  | tup h1 n1 r1 => cases h; exact .base (.tup h1)
  | wtup h1 r1 =>
    cases h
    obtain ⟨o, its, n, e, c, _⟩ := h1
    exact .kTuple e c
  | lst h1 n1 r1 => cases h; exact .base (.lst h1)
  | dct h1 n1 r1 => cases h; exact .base (.dK h1)
  | exc0 => cases h
  | exc1 => cases h
  | src => cases h
  | obj => cases h
def isiT : List String := ["int", "bool", "str", "tuple", "list", "dict"]
def isiA : List String := ["NoneType", "bool", "int", "str", "tuple", "list", "dict"]
theorem kitB_all : (isiA.all fun a => isiT.all fun T => decide (kitB a T = some (a == T || (a == "bool" && T == "int")))) = true := by decide +kernel
theorem kitB_is {a T : String} (ha : a ∈ isiA) (hT : T ∈ isiT) : kitB a T = some (a == T || (a == "bool" && T == "int")) := by
  have h := List.all_eq_true.mp kitB_all a ha
  exact of_decide_eq_true (List.all_eq_true.mp h T hT)
theorem tyS_mem {d : D} {a : String} (h : d.tyS = some a) : a ∈ isiA := by
  cases d <;> first | (cases h; decide) | cases h
section
variable {f : FrC} {X : Cx} {W : WX} {ca cb cc : Nat} {a b c : Expr} {es : List Expr} {ma mb mc : ME} {ta tb tc : MT} {mas : MA} {pos : Pos}
theorem ce_isi {T : String} {x : Str} {p p2 : Pos} (hK : f.g.K = X.K) (hT : T ∈ isiT) (hg : Gl X "isinstance") (hm : X.mg "isinstance" = none) (hg2 : Gl X x) (hm2 : X.mg x = none) (hv2 : bootBuiltins x = some (.type T)) (ha : CE f X W ca a ma)
    (hn : x ≠ "__name__" := by decide) (hdb : (x == ("__debug__" : Str)) = false := by decide) (he : starEach [a, .Name x p2] X.env = (false, eval a X.env) :: starEach [.Name x p2] X.env := by rfl) (he2 : starEach [.Name x p2] X.env = (false, eval (.Name x p2) X.env) :: starEach [] X.env := by rfl)
    (hpl : (backTo pos (starEach [.Name x p2] X.env)).any (·.1) = false := by rfl) : CE f X W ca (.Call (.Name "isinstance" p) [a, .Name x p2] [] pos) (mUn (dIsi T) ma) :=
  PE.imp (pe_callB call_isi hg hm (by decide +kernel) (pa_cons ha (pa_cons (pe_bltn hg2 hm2 hv2 (show RelV (.ty T) (.type T) from rfl) hn hdb) pa_nil he2) he) (by decide) (by decide) he hpl) fun σ H Q h => by
    obtain ⟨B, n, ρ, Q0, W0, R, hm, hq, hw⟩ := h
    refine rd_i (m := n) R hm (fun x v H1 h1 e1 R1 r1 => ?_) hw
    obtain ⟨s, hs⟩ := Option.isSome_iff_exists.mp h1.1
    refine ⟨_, _, _, _, x.isi T, rfl, .ty T, hK ▸ r1.ty hs, ?_, hq _ _ H1 h1.2 e1 R1.ok.src (.bl _)⟩
    unfold D.isi
    rw [hs]
    exact kit_ty (kitB_is (tyS_mem hs) hT)
/-- a name of the module's top that holds an int, a text ..; a tuple -/
theorem ce_glob {x : Str} {v : V} {d : D} {u : Value} (hg : Gl X x) (hm : X.mg x = some u) (r : RelV v u) (hr : ∀ B H, Rep f.g B H v d) (hd : (x == ("__debug__" : Str)) = false := by decide) : CE f X W 0 (.Name x pos) (mC d) := ce_tC (pe_glob hg hm r hd) hr

/-! slices -/
abbrev MO := Rho → (Option Int → Prop) → XKD → Prop
def mNoP : MO := fun _ Q _ => Q none
def mPart (e : ME) : MO := fun ρ Q W => e ρ (fun d => asI d fun i => Q (some i)) W
def RO (f : FrC) (W : WX) (c : Nat) (m : MO) : TO := fun σ H Q => ∃ (B : Addr → Prop) (n : Nat) (ρ : Rho) (Q0 : Option Int → Prop) (W0 : XKD), Rel f B σ H ρ (n + c) ∧ m ρ Q0 W0 ∧
  (∀ b H', Q0 b → Kp f.g H H' → SrcOk f.g H' n → Q b H') ∧ (∀ x cls dd H', W0 x → Kp f.g H H' → SrcOk f.g H' n → ErrAt f.g B H' cls dd x → W cls dd σ H')
theorem PO.imp {e : Option Expr} {t t' : TO} (h : PO X e t) (k : ∀ σ H Q, t' σ H Q → t σ H Q) : PO X e t' := ⟨fun pins s σ H Q I q => h.run pins s σ H Q I (k σ H Q q)⟩
theorem co_none : PO X none (RO f W 0 mNoP) := PO.imp po_none fun σ H Q h => by
  obtain ⟨B, n, ρ, Q0, W0, R, hm, hq, hw⟩ := h
  exact hq none H hm (Kp.refl H) R.ok.src
theorem co_some (h : CE f X W ca a ma) : PO X (some a) (RO f W ca (mPart ma)) := PO.imp (po_some h) fun σ H Q h => by
  obtain ⟨B, n, ρ, Q0, W0, R, hm, hq, hw⟩ := h
  refine rd_i (m := n) R hm (fun x v H1 h1 e1 R1 r1 => ?_) hw
  cases r1 with
  | int i => exact ⟨i, rfl, hq _ H1 h1 e1 R1.ok.src⟩
  | _ => exact h1.elim
def dSl : D → Option Int → Option Int → DK → Prop
  | .lst xs, lo, hi, Q => Q (.lst (cutD xs lo hi))
  | .tup xs, lo, hi, Q => Q (.tup (cutD xs lo hi))
  | .str z, lo, hi, Q => z.length ≤ sizeLine ∧ Q (.str (cutS z lo hi))
  | _, _, _, _ => False
def mSl (e : ME) (lo hi : MO) : ME := fun ρ Q W => e ρ (fun x => lo ρ (fun l => hi ρ (fun u => dSl x l u Q) W) W) W
theorem cut_reps {g : Gc} {B : Addr → Prop} {H : Hp} {vs : List V} {ds : List D} (r : Reps g B H vs ds) (lo hi : Option Int) : Reps g B H (cutV vs lo hi) (cutD ds lo hi) := by
  unfold cutV cutD
  rw [r.length]
  exact (r.drop _).take _
theorem ce_sl {lo hi : Option Expr} {ml mh : MO} {p2 : Pos} (hK : f.g.K = X.K) (ha : CE f X W ca a ma) (hl : PO X lo (RO f W cb ml)) (hh : PO X hi (RO f W cc mh)) : CE f X W (ca + cb + cc) (.Subscript a (.Slice lo hi none p2) pos) (mSl ma ml mh) :=
  PE.imp (pe_slice (SlR.or sl_list (SlR.or sl_tupA sl_str)) ha hl hh) fun σ H Q h => by
    obtain ⟨B, n, ρ, Q0, W0, R, hm, hq, hw⟩ := h
    refine rd_i (m := n + cc + cb) (R.mono (by omega)) hm (fun x v H1 h1 e1 R1 r1 => ?_) (fun x cls dd H' q e s er => hw x cls dd H' q e (s.mono (by omega)) er)
    refine ⟨B, n + cc, ρ, _, W0, R1, h1, fun l H2 h2 e2 s2 => ?_, fun x cls dd H' q e s er => hw x cls dd H' q (e1.trans e) (s.mono (by omega)) er⟩
    have R2 : Rel f B σ H2 ρ (n + cc) := R1.kp e2 s2
    refine ⟨B, n, ρ, _, W0, R2, h2, fun u H3 h3 e3 s3 => ?_, fun x cls dd H' q e s er => hw x cls dd H' q ((e1.trans e2).trans e) s er⟩
    have R3 : Rel f B σ H3 ρ n := R2.kp e3 s3
    have r3 : Rep f.g B H3 v x := (r1.kp R1.ok e2).kp R2.ok e3
    have e4 := (e1.trans e2).trans e3
    cases r3 with
    | lst ha nb rs =>
      refine .inl ⟨_, _, rfl, .inl (.inl ha), fun p hp => ?_⟩
      exact hq _ _ _ h3 (e4.trans (Gw.new hp).kp) ((Gw.new hp).src R3.ok.src) (.lst upd_same (nB R3.ok.dom hp) ((cut_reps rs l u).grow (Gw.new hp)))
    | tup ha nb rs =>
      refine .inr (.inl ⟨_, _, rfl, .inl (.inl ha), fun z => ?_, fun _ p hp => ?_⟩)
      · rename_i xs ds
        have e : cutD ds l u = ds := by
          unfold cutD
          rw [← rs.length, z.1, z.2, List.drop_zero, Nat.sub_zero, rs.length]
          exact List.take_length
        have h3' : Q0 (.tup (cutD ds l u)) := h3
        rw [e] at h3'
        exact hq _ _ _ h3' e4 R3.ok.src (.tup ha nb rs)
      · exact hq _ _ _ h3 (e4.trans (Gw.new hp).kp) ((Gw.new hp).src R3.ok.src) (.tup upd_same (nB R3.ok.dom hp) ((cut_reps rs l u).grow (Gw.new hp)))
    | wtup ha rs =>
      refine .inr (.inl ⟨_, _, rfl, .inr (hK ▸ ha), fun z => ?_, fun _ p hp => ?_⟩)
      · rename_i xs ds
        have e : cutD ds l u = ds := by
          unfold cutD
          rw [← rs.length, z.1, z.2, List.drop_zero, Nat.sub_zero, rs.length]
          exact List.take_length
        have h3' : Q0 (.tup (cutD ds l u)) := h3
        rw [e] at h3'
        exact hq _ _ _ h3' e4 R3.ok.src (.wtup ha rs)
      · exact hq _ _ _ h3 (e4.trans (Gw.new hp).kp) ((Gw.new hp).src R3.ok.src) (.tup upd_same (nB R3.ok.dom hp) ((cut_reps rs l u).grow (Gw.new hp)))
    | str z => exact .inr (.inr ⟨z, rfl, h3.1, hq _ _ _ h3.2 e4 R3.ok.src (.str _)⟩)
    | _ => exact h3.elim
end
end Hm
set_option Elab.async false
set_option linter.all false
set_option maxRecDepth 100000
set_option maxHeartbeats 2000000
namespace Hm
open PySem L2

section
variable {f : FrC} {B : Addr → Prop} {σ : St} {H H' : Hp} {ρ : Rho} {n m : Nat} {p : Addr}
theorem Okk.h0 (k : Okk f B H n) (hp : H p = none) : f.H0 p = none := by
  cases z : f.H0 p with
  | none => rfl
  | some o =>
    by_cases hs : InS f.g p
    · exact absurd hp (k.dom p (k.inB hs))
    · rw [k.keep p o hs z] at hp; cases hp
theorem RepsK.avoid {g : Gc} {v : List (Key × V)} {d : List (Key × D)} (hp : H p = none) (r : RepsK g B H v d) : RepsK g (fun a => B a ∨ a = p) H v d :=
  r.move fun a o h nb => ⟨h, fun z => z.elim nb (ne_of_none h hp)⟩
theorem RepsT.avoid {g : Gc} {v : List (List Key × V)} {d : List (List Key × D)} (hp : H p = none) (r : RepsT g B H v d) : RepsT g (fun a => B a ∨ a = p) H v d :=
  r.move fun a o h nb => ⟨h, fun z => z.elim nb (ne_of_none h hp)⟩
theorem RKt.avoid {g : Gc} {v : V} {d : List Key} (hp : H p = none) (r : RKt g B H v d) : RKt g (fun a => B a ∨ a = p) H v d :=
  r.move fun a o h nb => ⟨h, fun z => z.elim nb (ne_of_none h hp)⟩
/-- a new object that is kept for oneself -/
theorem Rel.fresh (R : Rel f B σ H ρ n) (hp : H p = none) (o : HO) : Rel f (fun a => B a ∨ a = p) σ (upd H p o) ρ n := by
  have gw : Gw H (upd H p o) := Gw.new hp
  refine ⟨⟨R.ok.s0, R.ok.d0, fun a h => .inl (R.ok.b0 a h), fun a h => ?_, fun a h => ?_, R.ok.keep.trans gw.kp, gw.src R.ok.src⟩, R.len, fun i x v h1 h2 => ?_, R.inj⟩
  · rcases h with h | rfl
    · exact R.ok.ow a h
    · exact .inr (R.ok.h0 hp)
  · rcases h with h | rfl
    · rw [upd_ne (fun z : a = p => R.ok.dom a h (by rw [z]; exact hp))]
      exact R.ok.dom a h
    · rw [upd_same]; exact fun z => nomatch z
  · have q := R.sl i x v h1 h2
    cases x with
    | un => trivial
    | dat d =>
      obtain ⟨v, e1, r⟩ := q
      exact ⟨v, e1, (r.avoid hp).grow gw⟩
    | own ds =>
      obtain ⟨p', vs, e1, b, h0, hp', r⟩ := q
      exact ⟨p', vs, e1, .inl b, h0, gw _ _ hp', (r.avoid hp).grow gw⟩
    | ownt ds =>
      obtain ⟨p', vs, e1, b, h0, hp', r⟩ := q
      exact ⟨p', vs, e1, .inl b, h0, gw _ _ hp', (r.avoid hp).grow gw⟩
    | kt d =>
      obtain ⟨v, e1, r⟩ := q
      exact ⟨v, e1, (r.avoid hp).grow gw⟩
    | ownd ds =>
      obtain ⟨p', vs, e1, b, h0, hp', r⟩ := q
      exact ⟨p', vs, e1, .inl b, h0, gw _ _ hp', (r.avoid hp).grow gw⟩
theorem Rep.upd {g : Gc} {v : V} {d : D} {o : HO} (hB : B p) (r : Rep g B H v d) : Rep g B (upd H p o) v d := r.move fun a u h nb => ⟨by rw [upd_ne (fun z => nb (by rw [z]; exact hB))]; exact h, nb⟩
theorem Reps.upd {g : Gc} {v : List V} {d : List D} {o : HO} (hB : B p) (r : Reps g B H v d) : Reps g B (upd H p o) v d := r.move fun a u h nb => ⟨by rw [upd_ne (fun z => nb (by rw [z]; exact hB))]; exact h, nb⟩
theorem RepsK.upd {g : Gc} {v : List (Key × V)} {d : List (Key × D)} {o : HO} (hB : B p) (r : RepsK g B H v d) : RepsK g B (upd H p o) v d := r.move fun a u h nb => ⟨by rw [upd_ne (fun z => nb (by rw [z]; exact hB))]; exact h, nb⟩
theorem RepsT.upd {g : Gc} {v : List (List Key × V)} {d : List (List Key × D)} {o : HO} (hB : B p) (r : RepsT g B H v d) : RepsT g B (upd H p o) v d := r.move fun a u h nb => ⟨by rw [upd_ne (fun z => nb (by rw [z]; exact hB))]; exact h, nb⟩
theorem RKt.upd {g : Gc} {v : V} {d : List Key} {o : HO} (hB : B p) (r : RKt g B H v d) : RKt g B (upd H p o) v d := r.move fun a u h nb => ⟨by rw [upd_ne (fun z => nb (by rw [z]; exact hB))]; exact h, nb⟩
theorem SrcOk.upd {g : Gc} {o : HO} (hS : ¬ InS g p) (h : SrcOk g H n) : SrcOk g (upd H p o) n := fun s c e => by
  obtain ⟨cells, turn, h0, h1, h2, h3⟩ := h s c e
  exact ⟨cells, turn, h0, by rw [upd_ne fun z => hS ⟨s, c, e, .inl z.symm⟩]; exact h1, by rw [upd_ne fun z => hS ⟨s, c, e, .inr z.symm⟩]; exact h2, h3⟩
theorem Okk.upd {o : HO} (k : Okk f B H n) (hB : B p) (h0 : f.H0 p = none) : Okk f B (upd H p o) n := by
  have hS : ¬ InS f.g p := k.nS h0
  refine ⟨k.s0, k.d0, k.b0, k.ow, fun a h => ?_, fun a u ns h => ?_, k.src.upd hS⟩
  · by_cases e : a = p
    · rw [e, upd_same]; exact fun z => nomatch z
    · rw [upd_ne e]; exact k.dom a h
  · rw [upd_ne fun z => by rw [z, h0] at h; cases h]
    exact k.keep a u ns h
/-- an object of one's own that no slot holds is written -/
theorem Rel.upd {o : HO} (R : Rel f B σ H ρ n) (hB : B p) (h0 : f.H0 p = none) (hno : ∀ (i : Nat) x, ρ[i]? = some x → x.isOwn = true → σ[i]? ≠ some (some (.ref p))) : Rel f B σ (upd H p o) ρ n := by
  refine ⟨R.ok.upd hB h0, R.len, fun i x v h1 h2 => ?_, R.inj⟩
  have q := R.sl i x v h1 h2
  cases x with
  | un => trivial
  | dat d =>
    obtain ⟨v, e1, r⟩ := q
    exact ⟨v, e1, r.upd hB⟩
  | own ds =>
    obtain ⟨p', vs, e1, b, h0', hp', r⟩ := q
    have ne : p' ≠ p := fun z => hno i _ h1 rfl (by rw [h2, e1, z])
    exact ⟨p', vs, e1, b, h0', by rw [upd_ne ne]; exact hp', r.upd hB⟩
  | ownt ds =>
    obtain ⟨p', vs, e1, b, h0', hp', r⟩ := q
    have ne : p' ≠ p := fun z => hno i _ h1 rfl (by rw [h2, e1, z])
    exact ⟨p', vs, e1, b, h0', by rw [upd_ne ne]; exact hp', r.upd hB⟩
  | kt d =>
    obtain ⟨v, e1, r⟩ := q
    exact ⟨v, e1, r.upd hB⟩
  | ownd ds =>
    obtain ⟨p', vs, e1, b, h0', hp', r⟩ := q
    have ne : p' ≠ p := fun z => hno i _ h1 rfl (by rw [h2, e1, z])
    exact ⟨p', vs, e1, b, h0', by rw [upd_ne ne]; exact hp', r.upd hB⟩
theorem Rel.unset {i : Nat} {o : Option V} (R : Rel f B σ H ρ n) : Rel f B (σ.set i o) H (ρ.set i .un) n :=
  ⟨R.ok, by rw [List.length_set, List.length_set, R.len], fun j x v h1 h2 => by
    rcases set_cases h1 with ⟨e1, e2, _⟩ | ⟨e1, h1⟩
    · subst e2; trivial
    · rcases set_cases h2 with ⟨e3, _⟩ | ⟨_, h2⟩
      · exact absurd e3 e1
      · exact R.sl j x v h1 h2, fun a b p x y ne h1 o1 h2 o2 s1 => by
    rcases set_cases h1 with ⟨e1, e2, _⟩ | ⟨e1, h1⟩
    · subst e2; cases o1
    · rcases set_cases h2 with ⟨e3, e4, _⟩ | ⟨e3, h2⟩
      · subst e4; cases o2
      · rw [List.getElem?_set_ne e1] at s1
        rw [List.getElem?_set_ne e3]
        exact R.inj a b p x y ne h1 o1 h2 o2 s1⟩
end

/-! ### list comprehensions -/
def wipeD (ρ : Rho) : List Nat → Rho
  | [] => ρ
  | v :: vs => (wipeD ρ vs).set v .un
theorem Rel.wipe {f : FrC} {B : Addr → Prop} {σ : St} {H : Hp} {ρ : Rho} {n : Nat} (R : Rel f B σ H ρ n) : ∀ vs : List Nat, Rel f B (L2.wipe σ vs) H (wipeD ρ vs) n
  | [] => R
  | _ :: vs => (Rel.wipe R vs).unset
theorem wipe_get (σ : St) (i : Nat) : ∀ vs : List Nat, (L2.wipe σ vs)[i]? = if i ∈ vs then (σ[i]?).map (fun _ => none) else σ[i]?
  | [] => by rw [if_neg (by simp)]; rfl
  | v :: vs => by
    have ih := wipe_get σ i vs
    show ((L2.wipe σ vs).set v none)[i]? = _
    by_cases e : v = i
    · subst e
      rw [if_pos List.mem_cons_self]
      by_cases hl : v < σ.length
      · rw [List.getElem?_set_self (by rw [wipe_length]; exact hl), List.getElem?_eq_getElem hl]; rfl
      · rw [List.getElem?_eq_none (by rw [List.length_set, wipe_length]; omega), List.getElem?_eq_none (by omega)]; rfl
    · rw [List.getElem?_set_ne e, ih]
      by_cases hm : i ∈ vs
      · rw [if_pos hm, if_pos (List.mem_cons_of_mem _ hm)]
      · rw [if_neg hm, if_neg (by simp only [List.mem_cons, not_or]; exact ⟨fun z => e z.symm, hm⟩)]
theorem wipe_agr {σ σ' : St} {is vs : List Nat} (h : ∀ i ∈ is, i ∈ vs) (ag : Agr is (L2.wipe σ vs) σ') : L2.wipe σ' vs = L2.wipe σ vs := by
  apply List.ext_getElem?
  intro i
  rw [wipe_get, wipe_get]
  have hl : σ'.length = σ.length := by rw [ag.1, wipe_length]
  by_cases hm : i ∈ vs
  · rw [if_pos hm, if_pos hm]
    by_cases hi : i < σ.length
    · rw [List.getElem?_eq_getElem hi, List.getElem?_eq_getElem (by rw [hl]; exact hi)]; rfl
    · rw [List.getElem?_eq_none (by omega), List.getElem?_eq_none (by omega)]
  · rw [if_neg hm, if_neg hm, ag.2 i fun z => hm (h i z), wipe_get, if_neg hm]
def mYes : MT := fun _ Q _ => Q true
def mLcL (g : MG) (t : MT) (e : ME) (ρ : Rho) : List D → List D → (List D → Prop) → Prop
  | [], acc, Q => Q acc
  | x :: r, acc, Q => g x ρ fun ρ' => t ρ' (fun b => if b = true then e ρ' (fun y => acc.length < sizeLine ∧ mLcL g t e ρ r (acc ++ [y]) Q) (fun _ => False) else mLcL g t e ρ r acc Q) (fun _ => False)
def mLc (it : ME) (g : MG) (t : MT) (e : ME) (vs : List Nat) : MA := fun ρ Q W => it ρ (fun d => asL d fun xs => mLcL g t e (wipeD ρ vs) xs [] Q) W
def mLcB (N : Nat) (it : ME) (g : MG) (t : MT) (e : ME) (vs : List Nat) : MA := fun ρ Q W => it ρ (fun d => asL d fun xs => xs.length ≤ N ∧ mLcL g t e (wipeD ρ vs) xs [] Q) W
def mLcT (it : ME) (g : MG) (t : MT) (e : ME) (vs : List Nat) : MA := fun ρ Q W => it ρ (fun d => asT d fun xs => mLcL g t e (wipeD ρ vs) xs [] Q) W
def mLcR1 (a : ME) (g : MG) (t : MT) (e : ME) (vs : List Nat) : MA := fun ρ Q W => a ρ (fun d => asI d fun j => (-(2 ^ 62) ≤ j ∧ j < 2 ^ 62) ∧ mLcL g t e (wipeD ρ vs) (rngD 0 j.toNat) [] Q) W
def mLcR2 (a b : ME) (g : MG) (t : MT) (e : ME) (vs : List Nat) : MA := fun ρ Q W => a ρ (fun x => b ρ (fun y => asI x fun i => asI y fun j => (-(2 ^ 62) ≤ i ∧ i < 2 ^ 62 ∧ -(2 ^ 62) ≤ j ∧ j < 2 ^ 62) ∧ mLcL g t e (wipeD ρ vs) (rngD i (j - i).toNat) [] Q) W) W
abbrev W0F : WX := fun _ _ _ _ => False
section
variable {f : FrC} {X : Cx} {W : WX} {ca cb cc ct ce : Nat} {a b c : Expr} {ma mb me : ME} {mt : MT} {pos : Pos} {B : Addr → Prop} {σ : St} {H : Hp} {ρ : Rho} {n k : Nat} {Dl : Addr} {t : TG} {g : MG} {is vs : List Nat} {Q0 : List D → Prop}
/-- the state of a comprehension: the list so far at Dl -/
structure LcS (f : FrC) (B : Addr → Prop) (σ : St) (ρ : Rho) (Dl : Addr) (H1 H : Hp) (k : Nat) (acc : List D) : Prop where
  R : Rel f (fun a => B a ∨ a = Dl) σ H ρ k
  h0 : f.H0 Dl = none
  no : ∀ (i : Nat) x, ρ[i]? = some x → x.isOwn = true → σ[i]? ≠ some (some (.ref Dl))
  li : ∃ av, H Dl = some (.lst av) ∧ Reps f.g (fun a => B a ∨ a = Dl) H av acc
  kp : Kp f.g H1 H
  fr : H1 Dl = none
theorem LcS.start (R : Rel f B σ H ρ n) (hD : H Dl = none) (o : Nat := n) : LcS f B σ ρ Dl H (upd H Dl (.lst [])) n [] := by
  refine ⟨R.fresh hD _, R.ok.h0 hD, fun i x h1 h2 h3 => ?_, ⟨[], upd_same, .nil⟩, (Gw.new hD).kp, hD⟩
  have q := R.sl i x _ h1 h3
  cases x with
  | un => cases h2
  | dat d => cases h2
  | own ds =>
    obtain ⟨p', vs, e1, b, h0, hp', r⟩ := q
    cases e1
    rw [hD] at hp'; cases hp'
  | ownt ds =>
    obtain ⟨p', vs, e1, b, h0, hp', r⟩ := q
    cases e1
    rw [hD] at hp'; cases hp'
  | kt d => cases h2
  | ownd ds =>
    obtain ⟨p', vs, e1, b, h0, hp', r⟩ := q
    cases e1
    rw [hD] at hp'; cases hp'
theorem lc_turn {H1 : Hp} {acc r : List D} {x : V} {d : D} {Pv : Hp → Prop} (hd : TgD f is t g) (his : ∀ i ∈ is, i ∈ vs) (S : LcS f B (L2.wipe σ vs) ρ Dl H1 H (k + (ct + ce)) acc) (rx : Rep f.g (fun a => B a ∨ a = Dl) H x d)
    (h : mLcL g mt me ρ (d :: r) acc Q0) (next : ∀ acc' H', mLcL g mt me ρ r acc' Q0 → LcS f B (L2.wipe σ vs) ρ Dl H1 H' k acc' → (∀ a o, a ≠ Dl → ¬ InS f.g a → H a = some o → H' a = some o) → Pv H') :
    t x (L2.wipe σ vs) H fun σ2 H2 => L2.wipe σ2 vs = L2.wipe σ vs ∧ RT f W0F ct mt σ2 H2 fun b H3 =>
      if b = true then RD f W0F ce me σ2 H3 fun y H4 => ∃ acc, H4 Dl = some (.lst acc) ∧ acc.length < sizeLine ∧ Pv (upd H4 Dl (.lst (acc ++ [y]))) else Pv H3 := by
  obtain ⟨av, hl, ra⟩ := S.li
  have nS : ¬ InS f.g Dl := S.R.ok.nS S.h0
  refine hd _ _ H ρ _ x d _ _ S.R rx h fun σ2 ρ2 q R2 ag => ⟨wipe_agr his ag, ?_⟩
  refine rt_i (m := k + ce) (R2.mono (by omega)) q (fun b H3 h3 e3 R3 => ?_) fun x cls dd H' z _ _ _ => z.elim
  cases b with
  | false =>
    rw [if_neg Bool.false_ne_true] at h3 ⊢
    exact next _ _ h3 ⟨S.R.kp e3 (R3.ok.src.mono (by omega)), S.h0, S.no, ⟨av, e3 _ _ nS hl, ra.kp S.R.ok e3⟩, S.kp.trans e3, S.fr⟩ fun a o _ ns ha => e3 a o ns ha
  | true =>
    rw [if_pos rfl] at h3 ⊢
    refine rd_i (m := k) R3 h3 (fun y v H4 h4 e4 R4 r4 => ?_) fun x cls dd H' z _ _ _ => z.elim
    have e : Kp f.g H H4 := e3.trans e4
    refine ⟨av, e _ _ nS hl, by rw [ra.length]; exact h4.1, ?_⟩
    have hB : (fun a => B a ∨ a = Dl) Dl := .inr rfl
    refine next _ _ h4.2 ⟨(S.R.kp e R4.ok.src).upd hB S.h0 S.no, S.h0, S.no, ⟨_, upd_same, ((ra.kp S.R.ok e).append (.cons r4 .nil)).upd hB⟩, fun a o ns ha => ?_, S.fr⟩ fun a o ne ns ha => by rw [upd_ne ne]; exact e a o ns ha
    rw [upd_ne (fun z : a = Dl => by rw [z, S.fr] at ha; cases ha)]
    exact (S.kp.trans e) a o ns ha
/-- the end of it -/
theorem lc_end {H0 H1 : Hp} {acc : List D} {Q : VK} {m : Nat} (S : LcS f B σ ρ Dl H1 H k acc) (q : Q0 acc) (e : Kp f.g H0 H1) (R0 : Okk f B H1 m) (hk : n ≤ k)
    (hq : ∀ ds p vs H', Q0 ds → Kp f.g H0 H' → SrcOk f.g H' n → H0 p = none → H' p = some (.lst vs) → Reps f.g (fun a => B a ∨ a = p) H' vs ds → Q (.ref p) H') : Q (.ref Dl) H := by
  obtain ⟨av, hl, ra⟩ := S.li
  refine hq acc Dl av H q (e.trans S.kp) (S.R.ok.src.mono hk) ?_ hl ra
  cases z : H0 Dl with
  | none => rfl
  | some o =>
    have := e Dl o (S.R.ok.nS S.h0) z
    rw [S.fr] at this; cases this
/-- the parts of a comprehension under its block -/
structure LcP (f : FrC) (X : Cx) (scope : Scope) (own : List (Str × Nat)) (tg : Expr) (ifs : List Expr) (elt : Expr) (ct ce : Nat) (t : TG) (is : List Nat) (g : MG) (mt : MT) (me : ME) : Prop where
  ok : BlkOk X.N X.env.scope scope own
  hg : ∀ (s : Shared) (H : Hp) (C : Addr) (cl : List (Str × Addr)) (fp : List Addr), PG (X.blk s H scope (compEnvC scope cl C X.env) fp) tg t
  hd : TgD f is t g
  hi : ∀ i ∈ is, i ∈ own.map (·.2)
  ht : ∀ (s : Shared) (H : Hp) (C : Addr) (cl : List (Str × Addr)) (fp : List Addr), PTs (X.blk s H scope (compEnvC scope cl C X.env) fp) ifs (RT f W0F ct mt)
  he : ∀ (s : Shared) (H : Hp) (C : Addr) (cl : List (Str × Addr)) (fp : List Addr), PE (X.blk s H scope (compEnvC scope cl C X.env) fp) elt (RD f W0F ce me)
theorem PTs.imp {X : Cx} {e : List Expr} {t t' : TT} (h : PTs X e t) (k : ∀ σ H Q, t' σ H Q → t σ H Q) : PTs X e t' := ⟨fun pins s σ H Q I q => h.run pins s σ H Q I (k σ H Q q)⟩
theorem cts_nil {X : Cx} : PTs X [] (RT f W 0 mYes) := PTs.imp pts_nil fun σ H Q h => by
  obtain ⟨B, n, ρ, Q0, W0, R, hm, hq, hw⟩ := h
  exact hq true H hm (Kp.refl H) R.ok.src
theorem cts_one {X : Cx} (h : CT f X W ct c mt) : PTs X [c] (RT f W ct mt) := pts_one h
theorem rl_lcR {vs : List Nat} {lo : Int} {len L : Nat} {H0 : Hp} {Q : VK} (hd : TgD f is t g) (his : ∀ i ∈ is, i ∈ vs) (R : Rel f B σ H ρ (n + L * (ct + ce))) (hz : len ≤ L) (e : Kp f.g H0 H) (h : mLcL g mt me (wipeD ρ vs) (rngD lo len) [] Q0)
    (hq : ∀ ds p vs H', Q0 ds → Kp f.g H0 H' → SrcOk f.g H' n → H0 p = none → H' p = some (.lst vs) → Reps f.g (fun a => B a ∨ a = p) H' vs ds → Q (.ref p) H') (hD : H Dl = none) :
    ∃ Wd : Nat → Nat → Hp → Prop, (∃ m, Wd 0 m (L2.upd H Dl (.lst []))) ∧ ∀ i m H, Wd i m H →
      ((Itr lo len).stop i H ∧ Q (.ref Dl) H) ∨ ((Itr lo len).go i H ∧ ∃ Nx : Hp → Prop, (∀ H', Nx H' → ∃ m', m' < m ∧ Wd (i + 1) m' H') ∧ ∀ x H', (Itr lo len).yld i H x H' → t x (L2.wipe σ vs) H' fun σ2 H2 => L2.wipe σ2 vs = L2.wipe σ vs ∧ RT f W0F ct mt σ2 H2 fun b H3 =>
        if b = true then RD f W0F ce me σ2 H3 fun y H4 => ∃ acc, H4 Dl = some (.lst acc) ∧ acc.length < sizeLine ∧ Nx (L2.upd H4 Dl (.lst (acc ++ [y]))) else Nx H3) := by
  have R' := R.wipe vs
  refine lc_range (lo := lo) (n := len) (Qd := fun H => Q (.ref Dl) H) (fun i H' => ∃ acc, LcS f B (L2.wipe σ vs) (wipeD ρ vs) Dl H H' (n + (L - i) * (ct + ce)) acc ∧ mLcL g mt me (wipeD ρ vs) ((rngD lo len).drop i) acc Q0)
    ⟨[], LcS.start R' hD, h⟩ (fun i H' hi' hP => ?_) (fun H' hP => ?_)
  · obtain ⟨acc, S, hf⟩ := hP
    rw [rng_drop hi'] at hf
    refine lc_turn (k := n + (L - (i + 1)) * (ct + ce)) hd his ⟨S.R.mono (mul_step (by omega)), S.h0, S.no, S.li, S.kp, S.fr⟩ (.int _) hf fun acc' H2 q S' _ => ⟨acc', S', q⟩
  · obtain ⟨acc, S, hf⟩ := hP
    have e0 : (rngD lo len).drop len = [] := List.drop_of_length_le (by unfold rngD; rw [List.length_map, List.length_range]; exact Nat.le_refl _)
    rw [e0] at hf
    exact lc_end S hf e R.ok (Nat.le_add_right _ _) hq
theorem rl_lcL {vs : List Nat} {L : Nat} {H0 : Hp} {Q : VK} {p : Addr} {xs : List V} {ds : List D} (K : PySem.W.Frag) (hd : TgD f is t g) (his : ∀ i ∈ is, i ∈ vs) (R : Rel f B σ H ρ (n + L * (ct + ce))) (hz : xs.length ≤ L) (e : Kp f.g H0 H) (h : mLcL g mt me (wipeD ρ vs) ds [] Q0)
    (hp : H p = some (.lst xs)) (nb : ¬ B p) (rs : Reps f.g B H xs ds)
    (hq : ∀ ds p vs H', Q0 ds → Kp f.g H0 H' → SrcOk f.g H' n → H0 p = none → H' p = some (.lst vs) → Reps f.g (fun a => B a ∨ a = p) H' vs ds → Q (.ref p) H') (hD : H Dl = none) :
    ∃ Wd : Nat → Nat → Hp → Prop, (∃ m, Wd 0 m (L2.upd H Dl (.lst []))) ∧ ∀ i m H, Wd i m H →
      ((Itl K p).stop i H ∧ Q (.ref Dl) H) ∨ ((Itl K p).go i H ∧ ∃ Nx : Hp → Prop, (∀ H', Nx H' → ∃ m', m' < m ∧ Wd (i + 1) m' H') ∧ ∀ x H', (Itl K p).yld i H x H' → t x (L2.wipe σ vs) H' fun σ2 H2 => L2.wipe σ2 vs = L2.wipe σ vs ∧ RT f W0F ct mt σ2 H2 fun b H3 =>
        if b = true then RD f W0F ce me σ2 H3 fun y H4 => ∃ acc, H4 Dl = some (.lst acc) ∧ acc.length < sizeLine ∧ Nx (L2.upd H4 Dl (.lst (acc ++ [y]))) else Nx H3) := by
  have R' := R.wipe vs
  have nD : p ≠ Dl := ne_of_none hp hD
  have nS : ¬ InS f.g p := fun z => nb (R.ok.inB z)
  have gw : Gw H (L2.upd H Dl (.lst [])) := Gw.new hD
  refine lc_list (K := K) (a := p) (xs := xs) (Qd := fun H => Q (.ref Dl) H) (fun i H' => ∃ acc, LcS f B (L2.wipe σ vs) (wipeD ρ vs) Dl H H' (n + (L - i) * (ct + ce)) acc ∧ mLcL g mt me (wipeD ρ vs) (ds.drop i) acc Q0 ∧ H' p = some (.lst xs) ∧ Reps f.g (fun a => B a ∨ a = Dl) H' xs ds)
    ⟨[], LcS.start R' hD, h, gw _ _ hp, (rs.avoid hD).grow gw⟩ (fun i H' _ ⟨_, _, _, h4, _⟩ => .inl (.inl h4)) (fun i x H' hi' hP => ?_) (fun H' hP => ?_)
  · obtain ⟨acc, S, hf, hp', rs'⟩ := hP
    have hlt : i < xs.length := (List.getElem?_eq_some_iff.mp hi').1
    have hds : i < ds.length := by rw [← rs.length]; exact hlt
    have ed : ds[i]? = some ds[i] := List.getElem?_eq_getElem hds
    obtain ⟨v2, ev, rv⟩ := rs'.get ed
    rw [hi'] at ev
    cases ev
    rw [drop_get ed] at hf
    refine lc_turn (k := n + (L - (i + 1)) * (ct + ce)) hd his ⟨S.R.mono (mul_step (by omega)), S.h0, S.no, S.li, S.kp, S.fr⟩ rv hf fun acc' H2 q S' st => ⟨acc', S', q, st p _ nD nS hp', ?_⟩
    exact rs'.move fun a o h nb => ⟨st a o (fun z => nb (.inr z)) (fun z => nb (.inl (R.ok.inB z))) h, nb⟩
  · obtain ⟨acc, S, hf, _⟩ := hP
    rw [rs.length, List.drop_length] at hf
    exact lc_end S hf e R.ok (Nat.le_add_right _ _) hq
theorem rl_lcT {vs : List Nat} {L : Nat} {H0 : Hp} {Q : VK} {p : Addr} {xs : List V} {ds : List D} (K : PySem.W.Frag) (hd : TgD f is t g) (his : ∀ i ∈ is, i ∈ vs) (R : Rel f B σ H ρ (n + L * (ct + ce))) (hz : xs.length ≤ L) (e : Kp f.g H0 H) (h : mLcL g mt me (wipeD ρ vs) ds [] Q0)
    (hp : (H p = some (.tup xs) ∧ ¬ B p) ∨ WrT K p xs) (rs : Reps f.g B H xs ds)
    (hq : ∀ ds p vs H', Q0 ds → Kp f.g H0 H' → SrcOk f.g H' n → H0 p = none → H' p = some (.lst vs) → Reps f.g (fun a => B a ∨ a = p) H' vs ds → Q (.ref p) H') (hD : H Dl = none) :
    ∃ Wd : Nat → Nat → Hp → Prop, (∃ m, Wd 0 m (L2.upd H Dl (.lst []))) ∧ ∀ i m H, Wd i m H →
      ((Itt K p).stop i H ∧ Q (.ref Dl) H) ∨ ((Itt K p).go i H ∧ ∃ Nx : Hp → Prop, (∀ H', Nx H' → ∃ m', m' < m ∧ Wd (i + 1) m' H') ∧ ∀ x H', (Itt K p).yld i H x H' → t x (L2.wipe σ vs) H' fun σ2 H2 => L2.wipe σ2 vs = L2.wipe σ vs ∧ RT f W0F ct mt σ2 H2 fun b H3 =>
        if b = true then RD f W0F ce me σ2 H3 fun y H4 => ∃ acc, H4 Dl = some (.lst acc) ∧ acc.length < sizeLine ∧ Nx (L2.upd H4 Dl (.lst (acc ++ [y]))) else Nx H3) := by
  have R' := R.wipe vs
  have gw : Gw H (L2.upd H Dl (.lst [])) := Gw.new hD
  refine lc_tup (K := K) (a := p) (xs := xs) (Qd := fun H => Q (.ref Dl) H) (fun i H' => ∃ acc, LcS f B (L2.wipe σ vs) (wipeD ρ vs) Dl H H' (n + (L - i) * (ct + ce)) acc ∧ mLcL g mt me (wipeD ρ vs) (ds.drop i) acc Q0 ∧ (((H' p = some (.tup xs) ∧ p ≠ Dl) ∧ ¬ B p) ∨ WrT K p xs) ∧ Reps f.g (fun a => B a ∨ a = Dl) H' xs ds)
    ⟨[], LcS.start R' hD, h, hp.imp (fun z => ⟨⟨gw _ _ z.1, ne_of_none z.1 hD⟩, z.2⟩) id, (rs.avoid hD).grow gw⟩ (fun i H' _ ⟨_, _, _, h4, _⟩ => h4.elim (fun z => .inl (.inl z.1.1)) .inr) (fun i x H' hi' hP => ?_) (fun H' hP => ?_)
  · obtain ⟨acc, S, hf, hp', rs'⟩ := hP
    have hlt : i < xs.length := (List.getElem?_eq_some_iff.mp hi').1
    have hds : i < ds.length := by rw [← rs.length]; exact hlt
    have ed : ds[i]? = some ds[i] := List.getElem?_eq_getElem hds
    obtain ⟨v2, ev, rv⟩ := rs'.get ed
    rw [hi'] at ev
    cases ev
    rw [drop_get ed] at hf
    refine lc_turn (k := n + (L - (i + 1)) * (ct + ce)) hd his ⟨S.R.mono (mul_step (by omega)), S.h0, S.no, S.li, S.kp, S.fr⟩ rv hf fun acc' H2 q S' st => ⟨acc', S', q, hp'.imp (fun z => ⟨⟨st p _ z.1.2 (fun y => z.2 (R.ok.inB y)) z.1.1, z.1.2⟩, z.2⟩) id, ?_⟩
    exact rs'.move fun a o h nb => ⟨st a o (fun z => nb (.inr z)) (fun z => nb (.inl (R.ok.inB z))) h, nb⟩
  · obtain ⟨acc, S, hf, _⟩ := hP
    rw [rs.length, List.drop_length] at hf
    exact lc_end S hf e R.ok (Nat.le_add_right _ _) hq
variable {scope : Scope} {own : List (Str × Nat)} {tg elt : Expr} {ifs : List Expr}
theorem rd_lc {σ : St} {H : Hp} {Q : VK} (P : LcP f X scope own tg ifs elt ct ce t is g mt me) (h0 : ct + ce = 0) (h : RL f W ca (mLc ma g mt me (own.map (·.2))) σ H Q) : tLc (iList X.K (RD f W ca ma)) t (RT f W0F ct mt) (RD f W0F ce me) (own.map (·.2)) σ H Q := by
  obtain ⟨B, n, ρ, Q0, W0, R, hm, hq, hw⟩ := h
  refine rd_i (m := n) R hm (fun d v H1 h1 e1 R1 r1 => ?_) hw
  cases r1 with
  | lst hp nb rs => exact ⟨_, rfl, ⟨_, .inl (.inl hp)⟩, fun Dl hD => rl_lcL X.K P.hd P.hi (by rw [h0, Nat.mul_zero]; exact R1) (Nat.le_refl _) e1 h1 hp nb rs hq hD⟩
  | _ => exact h1.elim
theorem rd_lcB (N : Nat) {σ : St} {H : Hp} {Q : VK} (P : LcP f X scope own tg ifs elt ct ce t is g mt me) (h : RL f W (ca + N * (ct + ce)) (mLcB N ma g mt me (own.map (·.2))) σ H Q) : tLc (iList X.K (RD f W ca ma)) t (RT f W0F ct mt) (RD f W0F ce me) (own.map (·.2)) σ H Q := by
  obtain ⟨B, n, ρ, Q0, W0, R, hm, hq, hw⟩ := h
  refine rd_i (m := n + N * (ct + ce)) (R.mono (by omega)) hm (fun d v H1 h1 e1 R1 r1 => ?_) (fun x cls dd H' q e s er => hw x cls dd H' q e (s.mono (by omega)) er)
  cases r1 with
  | lst hp nb rs => exact ⟨_, rfl, ⟨_, .inl (.inl hp)⟩, fun Dl hD => rl_lcL X.K P.hd P.hi R1 (by rw [rs.length]; exact h1.1) e1 h1.2 hp nb rs hq hD⟩
  | _ => exact h1.elim
theorem rd_lcT {σ : St} {H : Hp} {Q : VK} (hK : f.g.K = X.K) (P : LcP f X scope own tg ifs elt ct ce t is g mt me) (h0 : ct + ce = 0) (h : RL f W ca (mLcT ma g mt me (own.map (·.2))) σ H Q) : tLc (iTup X.K (RD f W ca ma)) t (RT f W0F ct mt) (RD f W0F ce me) (own.map (·.2)) σ H Q := by
  obtain ⟨B, n, ρ, Q0, W0, R, hm, hq, hw⟩ := h
  refine rd_i (m := n) R hm (fun d v H1 h1 e1 R1 r1 => ?_) hw
  cases r1 with
  | tup hp nb rs => exact ⟨_, rfl, ⟨_, .inl (.inl hp)⟩, fun Dl hD => rl_lcT X.K P.hd P.hi (by rw [h0, Nat.mul_zero]; exact R1) (Nat.le_refl _) e1 h1 (.inl ⟨hp, nb⟩) rs hq hD⟩
  | wtup hp rs => exact ⟨_, rfl, ⟨_, .inr (hK ▸ hp)⟩, fun Dl hD => rl_lcT X.K P.hd P.hi (by rw [h0, Nat.mul_zero]; exact R1) (Nat.le_refl _) e1 h1 (.inr (hK ▸ hp)) rs hq hD⟩
  | _ => exact h1.elim
theorem rd_lcR1 {σ : St} {H : Hp} {Q : VK} (P : LcP f X scope own tg ifs elt ct ce t is g mt me) (h : RL f W (ca + 2 ^ 62 * (ct + ce)) (mLcR1 ma g mt me (own.map (·.2))) σ H Q) : tLc (iRng1 (tCons (RD f W ca ma) tNil)) t (RT f W0F ct mt) (RD f W0F ce me) (own.map (·.2)) σ H Q := by
  obtain ⟨B, n, ρ, Q0, W0, R, hm, hq, hw⟩ := h
  refine rd_i (m := n + 2 ^ 62 * (ct + ce)) (R.mono (by omega)) hm (fun d v H1 h1 e1 R1 r1 => ?_) (fun x cls dd H' q e s er => hw x cls dd H' q e (s.mono (by omega)) er)
  cases r1 with
  | int j => exact ⟨j, rfl, h1.1.1, h1.1.2, fun Dl hD => rl_lcR (L := 2 ^ 62) P.hd P.hi R1 (by have := h1.1.2; omega) e1 h1.2 hq hD⟩
  | _ => exact h1.elim
theorem rd_lcR2 {σ : St} {H : Hp} {Q : VK} (P : LcP f X scope own tg ifs elt ct ce t is g mt me) (h : RL f W (ca + cb + 2 ^ 63 * (ct + ce)) (mLcR2 ma mb g mt me (own.map (·.2))) σ H Q) : tLc (iRng2 (tCons (RD f W ca ma) (tCons (RD f W cb mb) tNil))) t (RT f W0F ct mt) (RD f W0F ce me) (own.map (·.2)) σ H Q := by
  obtain ⟨B, n, ρ, Q0, W0, R, hm, hq, hw⟩ := h
  refine rd_i (m := n + 2 ^ 63 * (ct + ce) + cb) (R.mono (by omega)) hm (fun d v H1 h1 e1 R1 r1 => ?_) (fun x cls dd H' q e s er => hw x cls dd H' q e (s.mono (by omega)) er)
  refine rd_i (m := n + 2 ^ 63 * (ct + ce)) R1 h1 (fun d2 v2 H2 h2 e2 R2 r2 => ?_) (fun x cls dd H' q e s er => hw x cls dd H' q (e1.trans e) (s.mono (by omega)) er)
  cases r1 with
  | int i =>
    cases r2 with
    | int j => exact ⟨i, j, rfl, h2.1, fun Dl hD => rl_lcR (L := 2 ^ 63) P.hd P.hi R2 (by have := h2.1; omega) (e1.trans e2) h2.2 hq hD⟩
    | _ => exact h2.elim
  | _ => exact h2.elim
/-- the ways in: what is walked, and its reading -/
structure LcI (f : FrC) (X : Cx) (W : WX) (tg iter : Expr) (ct ce : Nat) (t : TG) (g : MG) (mt : MT) (me : ME) (own : List (Str × Nat)) (c : Nat) (m : MA) : Prop where
  ex : ∃ wi, PI X tg iter wi ∧ ∀ σ H Q, RL f W c m σ H Q → tLc wi t (RT f W0F ct mt) (RD f W0F ce me) (own.map (·.2)) σ H Q
theorem li_list (P : LcP f X scope own tg ifs elt ct ce t is g mt me) (h0 : ct + ce = 0) (hi : CE f X W ca a ma) : LcI f X W tg a ct ce t g mt me own ca (mLc ma g mt me (own.map (·.2))) := ⟨_, pi_list hi, fun _ _ _ h => rd_lc P h0 h⟩
theorem li_listB (N : Nat) (P : LcP f X scope own tg ifs elt ct ce t is g mt me) (hi : CE f X W ca a ma) : LcI f X W tg a ct ce t g mt me own (ca + N * (ct + ce)) (mLcB N ma g mt me (own.map (·.2))) := ⟨_, pi_list hi, fun _ _ _ h => rd_lcB N P h⟩
theorem li_tup (hK : f.g.K = X.K) (P : LcP f X scope own tg ifs elt ct ce t is g mt me) (h0 : ct + ce = 0) (hi : CE f X W ca a ma) : LcI f X W tg a ct ce t g mt me own ca (mLcT ma g mt me (own.map (·.2))) := ⟨_, pi_tup hi, fun _ _ _ h => rd_lcT hK P h0 h⟩
theorem li_range1 {p cpos : Pos} (P : LcP f X scope own tg ifs elt ct ce t is g mt me) (hgl : Gl X "range") (hmg : X.mg "range" = none) (hi : CE f X W ca a ma) (ha : starEach [a] X.env = [(false, eval a X.env)] := by rfl) :
    LcI f X W tg (.Call (.Name "range" p) [a] [] cpos) ct ce t g mt me own (ca + 2 ^ 62 * (ct + ce)) (mLcR1 ma g mt me (own.map (·.2))) := ⟨_, pi_range1 hgl hmg (pa_cons hi pa_nil ha) ha, fun _ _ _ h => rd_lcR1 P h⟩
theorem li_range2 {p cpos : Pos} (P : LcP f X scope own tg ifs elt ct ce t is g mt me) (hgl : Gl X "range") (hmg : X.mg "range" = none) (hi : CE f X W ca a ma) (hj : CE f X W cb b mb) (ha : starEach [a, b] X.env = [(false, eval a X.env), (false, eval b X.env)] := by rfl) (ha2 : starEach [b] X.env = [(false, eval b X.env)] := by rfl) :
    LcI f X W tg (.Call (.Name "range" p) [a, b] [] cpos) ct ce t g mt me own (ca + cb + 2 ^ 63 * (ct + ce)) (mLcR2 ma mb g mt me (own.map (·.2))) := ⟨_, pi_range2 hgl hmg (pa_cons hi (pa_cons hj pa_nil ha2) (ha.trans (by rw [ha2]))) ha ha2, fun _ _ _ h => rd_lcR2 P h⟩
theorem cl_lc {iter : Expr} {mm : MA} (hc : X.calm = true) (hN : X.N.Nodup) (P : LcP f X scope own tg ifs elt ct ce t is g mt me) (I : LcI f X W tg iter ct ce t g mt me own cc mm) (hs : ∀ x, foldedSetIterable iter X.env x = pure x := by intro _; rfl) :
    CL f X W cc (.ListComp elt [⟨tg, iter, ifs, 0⟩] scope pos) mm := by
  obtain ⟨wi, hi, k⟩ := I.ex
  exact PE.imp (pe_lc hc hN hi P.ok P.hg P.ht P.he hs) k
theorem cs_asgLc {iter : Expr} {mm : MA} {i : Nat} {y : Str} {py spos : Pos} (hc : X.calm = true) (hN : X.N.Nodup) (P : LcP f X scope own tg ifs elt ct ce t is g mt me) (I : LcI f X W tg iter ct ce t g mt me own cc mm)
    (hsw : swapsWith (.ListComp elt [⟨tg, iter, ifs, 0⟩] scope pos) (some (.Name y py)) spos.line X.env = pure true) (hy : X.N[i]? = some y := by rfl) (hyl : X.env.scope.names.lookup y = some .local := by rfl) (hs : ∀ x, foldedSetIterable iter X.env x = pure x := by intro _; rfl) :
    CS f X W cc (.Assign [.Name y py] (.ListComp elt [⟨tg, iter, ifs, 0⟩] scope pos) spos) (mAsg i (mFrz mm)) := by
  obtain ⟨wi, hi, k⟩ := I.ex
  refine PS.imp (ps_setLc (i := i) hc hN hy hyl hsw hi P.ok P.hg P.ht P.he hs) fun De σ H h => ?_
  obtain ⟨B, n, ρ, E, R, hm, hn, hr, hb, hcc, hx⟩ := h
  refine k σ H _ ⟨B, n, ρ, _, E.ex ρ, R, hm, fun ds p vs H' q e s hp h1 r => ?_, fun x cls dd H' q e s er => hx B x cls dd σ H' ρ q (R.kp e s) er⟩
  exact hn B _ H' _ q ((R.kp e s).set (.lst h1 (nB R.ok.dom hp) r.free))
end
end Hm
set_option Elab.async false
set_option linter.all false
set_option maxRecDepth 100000
set_option maxHeartbeats 2000000
namespace Hm
open PySem L2 PySem.Spec PyProof.Rows

/-! ### a def -/
section
variable {P : Program} {w : World} {K : PySem.W.Frag} {mg : Str → Option Value} {base : Heap} {ct : Str → Option Addr}
theorem rel_start {N : List Str} {vs : List V} {ds : List D} {src : Option (Addr × Addr)} {B : Addr → Prop} {H : Hp} {n k : Nat} {N0 : Addr → Prop} (hB : ∀ a, InS ⟨K, ct, src⟩ a → B a) (dom : ∀ a, B a → H a ≠ none) (s : SrcOk ⟨K, ct, src⟩ H n) (r : Reps ⟨K, ct, src⟩ B H vs ds) (hk : ds.length = k) :
    Rel ⟨⟨K, ct, src⟩, B, H, N0⟩ B (L2.start N vs) H (ds.map Sl.dat ++ List.replicate (N.length - k) .un) n := by
  have hl := r.length
  refine ⟨⟨hB, dom, fun a h => h, fun a h => .inl h, dom, Kp.refl H, s⟩, ?_, fun i x o h1 h2 => ?_, fun i j p x y ne h1 o1 => ?_⟩
  · unfold L2.start
    rw [List.length_append, List.length_map, List.length_replicate, List.length_append, List.length_map, List.length_replicate]
    omega
  · by_cases hi : i < ds.length
    · rw [List.getElem?_append_left (by rw [List.length_map]; exact hi), List.getElem?_map, List.getElem?_eq_getElem hi] at h1
      obtain ⟨v, ev, rv⟩ := r.get (List.getElem?_eq_getElem hi)
      unfold L2.start at h2
      rw [List.getElem?_append_left (by rw [List.length_map, hl]; exact hi), List.getElem?_map, ev] at h2
      cases h1; cases h2
      exact ⟨v, rfl, rv⟩
    · rw [List.getElem?_append_right (by rw [List.length_map]; omega), List.getElem?_replicate] at h1
      split at h1
      · cases h1; trivial
      · cases h1
  · by_cases hi : i < ds.length
    · rw [List.getElem?_append_left (by rw [List.length_map]; exact hi), List.getElem?_map, List.getElem?_eq_getElem hi] at h1
      cases h1; cases o1
    · rw [List.getElem?_append_right (by rw [List.length_map]; omega), List.getElem?_replicate] at h1
      split at h1
      · cases h1; cases o1
      · cases h1
/-- THE RULE for a def over data -/
theorem fn_data {x qual : Str} {st : Stmt} {fa : Addr} {fd : FuncData} {N ps : List Str} {k c : Nat} {ms : MS} (F : Fun K x qual st fa fd) (S : FnScope N ps (defScope st))
    (body : ∀ (cdv : Value) (A : Around) (outer : List Env) (s : Shared) (H : Hp) (E : XK) (f : FrC), f.g.K = K → f.g.ct = ct → (f.N = fun _ => False) → Room k (A.deeper (envOfC qual (defScope st) s.heap.objs.size fa cdv)) →
      CB f (cxOf (L2.CX P w) P w K mg base N qual (defScope st) fa cdv A outer s H E) (fun cls d _ H => E cls d H) c (defBody st) ms) : FnD P w K mg base ct (k + 1) fa fd ps c (mFun ps.length N.length ms) := by
  refine F.okX S (fun vs H Q E h => ?_) (fun cdv A outer s H vs Q E hr h => ?_)
  · obtain ⟨src, B, n, ds, Q0, W0, h1, h2, h3, h4, h5, _⟩ := h
    rw [h4.length]
    exact h5.1
  · obtain ⟨src, B, n, ds, Q0, W0, h1, h2, h3, h4, h5, h6, h7⟩ := h
    refine ⟨_, body cdv A outer s H E ⟨⟨K, ct, src⟩, B, H, fun _ => False⟩ rfl rfl rfl hr, ?_⟩
    refine ⟨B, n, _, _, rel_start h1 h2 h3 h4 h5.1, h5.2, fun B' σ' H' ρ' q R' => ?_, fun d v H' q e s' r => ?_, fun B' σ' H' ρ' q R' => q.elim, fun B' σ' H' ρ' q R' => q.elim, fun B' x cls dd σ' H' ρ' q R' er => ?_⟩
    · exact h6 _ _ H' q R'.ok.keep R'.ok.src .non
    · exact h6 d v H' q e s' (r.move fun a o h nb => ⟨h, fun z => nb (.inl z)⟩)
    · refine h7 x cls dd H' q R'.ok.keep R'.ok.src ?_
      obtain ⟨C, e1, e2, e3⟩ := er
      refine ⟨C, e1, e2, ?_⟩
      rcases e3 with e3 | ⟨d, kvs, z1, z2, z3, z4, z5⟩
      · exact .inl e3
      · exact .inr ⟨d, kvs, z1, z2, fun z => z3 (R'.ok.b0 d z), z4.move fun a o h nb => ⟨h, fun z => nb (R'.ok.b0 a z)⟩, z5⟩
/-- a stronger reading, fewer draws -/
theorem FnD.imp {k c c' : Nat} {fa : Addr} {fd : FuncData} {ps : List Str} {m m' : MF} (F : FnD P w K mg base ct k fa fd ps c m) (hc : c ≤ c') (h : ∀ ds Q W, m' ds Q W → m ds Q W) : FnD P w K mg base ct k fa fd ps c' m' :=
  FnOk.imp F fun vs H Q E z => by
    obtain ⟨src, B, n, ds, Q0, W0, h1, h2, h3, h4, h5, h6, h7⟩ := z
    exact ⟨src, B, n + (c' - c), ds, Q0, W0, h1, h2, h3.mono (by omega), h4, h _ _ _ h5, fun d v H' q e s r => h6 d v H' q e (s.mono (by omega)) r, fun x cls dd H' q e s er => h7 x cls dd H' q e (s.mono (by omega)) er⟩
theorem FnD.cost {k c c' : Nat} {fa : Addr} {fd : FuncData} {ps : List Str} {m : MF} (F : FnD P w K mg base ct k fa fd ps c m) (hc : c ≤ c') : FnD P w K mg base ct k fa fd ps c' m := FnD.imp F hc fun _ _ _ h => h
end

/-! ### raise C() -/
section
variable {f : FrC} {X : Cx} {W : WX} {ca cb cc : Nat} {a b c : Expr} {es : List Expr} {ma mb mc : ME} {mas : MA} {pos : Pos}
variable {C : Addr} {bmB : List Value} {Bn newId initId : String}
theorem pmk_own0 {x : Str} {p pos : Pos} (F : ExcBaseFacts Bn newId initId bmB) (q : PySem.W.excIn X.K C bmB newId = true) (gC : X.mg x = some (.ref C)) (kC : PySem.W.keepIn X.K (.ref C) = true) (r : Raises X (.ref C)) (hg : Gl X x)
    (hdb : (x == ("__debug__" : Str)) = false := by decide) : PMk X (.Call (.Name x p) [] [] pos) (fun _ H Q => Q (.ref C) none H) := by
  intro pins s σ H Q I h
  refine wpAny_Call_Name_kw (ld_glob I hg gC ?_ hdb)
  refine PySem.W.callWith_K0 I.kIn kC ?_
  show wpAny _ _ (call (.ref C) []) _ _ _
  obtain ⟨bm, N, nm, qn, bs, hdct, sn, sub, ab, col, dd, k0, k1, k2, k3, k5, mN, hC, hN, hni, T⟩ := exc_obj I.kIn q
  refine wpAny_call_exc_subT F T hC hN hni (fun h' e hm => ?_) (by show 0 ≤ sizeLine; exact Nat.zero_le _)
  exact mk_of I hm r h (I.hok.gone hm.new)
/-- what is to be known of a class of errors at C, called x -/
structure ErrC (K : PySem.W.Frag) (mg : Str → Option Value) (ct : Str → Option Addr) (x : Str) (C : Addr) : Prop where
  ct : ct x = some C
  gC : mg x = some (.ref C)
  xC : PySem.W.excIn K C [.type "ValueError", .type "Exception", .type "BaseException", .type "object"] "ValueError.__new__" = true
  kC : PySem.W.keepIn K (.ref C) = true
  bC : PySem.W.subIn K (.ref C) (.type "BaseException") = some true
  tC : PySem.W.typeIn K (.ref C) = some (.type "type")
theorem cs_raise0 {x : Str} {p cpos : Pos} {ct : Str → Option Addr} (hct : f.g.ct = ct) (hc : X.calm = true) (tk : Takes X W) (T : ErrC X.K X.mg ct x C) (hg : Gl X x) (hdb : (x == ("__debug__" : Str)) = false := by decide) : CS f X W 0 (.Raise (some (.Call (.Name x p) [] [] cpos)) none pos) (mRaise ⟨x, []⟩) :=
  PS.imp (ps_raise hc tk (pmk_own0 PySem.F.excBase_ValueError T.xC T.gC T.kC (raises_own T.bC T.tC) hg hdb)) fun De σ H h => by
    obtain ⟨B, n, ρ, E, R, hm, hn, hr, hb, hc, hx⟩ := h
    exact hx B _ _ _ σ H ρ hm R ⟨C, by rw [hct]; exact T.ct, rfl, .inl ⟨rfl, rfl⟩⟩

/-! ### lists of one's own -/
theorem Rel.setOwn {B : Addr → Prop} {σ : L2.St} {H H' : Hp} {ρ : Rho} {n m i p : Nat} {vs : List V} {ds : List D} (R : Rel f B σ H ρ n) (e : Kp f.g H H') (s : SrcOk f.g H' m) (hp : H p = none) (h1 : H' p = some (.lst vs)) (r : Reps f.g (fun a => B a ∨ a = p) H' vs ds) :
    Rel f (fun a => B a ∨ a = p) (σ.set i (some (.ref p))) H' (ρ.set i (.own ds)) m := by
  have R1 := R.kp e s
  have h0 := R.ok.h0 hp
  have old : ∀ (j : Nat) x, ρ[j]? = some x → x.isOwn = true → σ[j]? ≠ some (some (.ref p)) := fun j x h1 h2 h3 => by
    have q := R.sl j x _ h1 h3
    cases x with
    | un => cases h2
    | dat d => cases h2
    | own ds =>
      obtain ⟨p', vs, e1, b, h0, hp', r⟩ := q
      cases e1
      rw [hp] at hp'; cases hp'
    | ownt ds =>
      obtain ⟨p', vs, e1, b, h0, hp', r⟩ := q
      cases e1
      rw [hp] at hp'; cases hp'
    | kt d => cases h2
    | ownd ds =>
      obtain ⟨p', vs, e1, b, h0, hp', r⟩ := q
      cases e1
      rw [hp] at hp'; cases hp'
  have av : ∀ a o, H a = some o → ¬ B a → H' a = some o ∧ ¬ (B a ∨ a = p) := fun a o h nb => ⟨e a o (fun z => nb (R.ok.inB z)) h, fun z => z.elim nb (ne_of_none h hp)⟩
  refine ⟨⟨R.ok.s0, R.ok.d0, fun a h => .inl (R.ok.b0 a h), fun a h => ?_, fun a h => ?_, R1.ok.keep, s⟩, by rw [List.length_set, List.length_set, R.len], fun j x o h2 h3 => ?_, fun a b q x y ne h2 o2 h3 o3 s2 => ?_⟩
  · rcases h with h | rfl
    · exact R.ok.ow a h
    · exact .inr h0
  · rcases h with h | rfl
    · exact R1.ok.dom a h
    · rw [h1]; exact fun z => nomatch z
  · rcases set_cases h2 with ⟨e1, e2, _⟩ | ⟨e1, h2⟩
    · rcases set_cases h3 with ⟨_, e4, _⟩ | ⟨e3, _⟩
      · subst e2; subst e4
        exact ⟨p, vs, rfl, .inr rfl, h0, h1, r⟩
      · exact absurd e1 e3
    · rcases set_cases h3 with ⟨e3, _⟩ | ⟨_, h3⟩
      · exact absurd e3 e1
      · have q := R.sl j x o h2 h3
        cases x with
        | un => trivial
        | dat d =>
          obtain ⟨v, e1, r⟩ := q
          exact ⟨v, e1, r.move av⟩
        | own ds =>
          obtain ⟨p', vs, e1, b, h0, hp', r⟩ := q
          exact ⟨p', vs, e1, .inl b, h0, e _ _ (R.ok.nS h0) hp', r.move av⟩
        | ownt ds =>
          obtain ⟨p', vs, e1, b, h0, hp', r⟩ := q
          exact ⟨p', vs, e1, .inl b, h0, e _ _ (R.ok.nS h0) hp', r.move av⟩
        | kt d =>
          obtain ⟨v, e1, r⟩ := q
          exact ⟨v, e1, r.move av⟩
        | ownd ds =>
          obtain ⟨p', vs, e1, b, h0, hp', r⟩ := q
          exact ⟨p', vs, e1, .inl b, h0, e _ _ (R.ok.nS h0) hp', r.move av⟩
  · rcases set_cases h2 with ⟨e1, e2, l1⟩ | ⟨e1, h2⟩
    · subst e1
      rw [List.getElem?_set_self (by rw [R.len]; exact l1)] at s2
      cases s2
      rcases set_cases h3 with ⟨e3, _⟩ | ⟨e3, h3⟩
      · exact absurd e3 ne
      · rw [List.getElem?_set_ne e3]
        exact old b y h3 o3
    · rw [List.getElem?_set_ne e1] at s2
      rcases set_cases h3 with ⟨e3, e4, l3⟩ | ⟨e3, h3⟩
      · subst e3
        rw [List.getElem?_set_self (by rw [R.len]; exact l3)]
        intro z
        cases z
        exact old a x h2 o2 s2
      · rw [List.getElem?_set_ne e3]
        exact R.inj a b q x y ne h2 o2 h3 o3 s2
/-- x = [..], x = a new list: to be changed -/
theorem cs_asgO {i : Nat} {x : Str} {p : Pos} (hN : X.N.Nodup) (he : CL f X W ca a mas) (hi : X.N[i]? = some x := by rfl) (hx : Loc X.env.scope x := by first | exact Or.inl rfl | exact Or.inr rfl) (hf : X.fn x = true ∨ X.env.scope.names.lookup x = some .local := by first | exact .inl rfl | exact .inr rfl | assumption)
    (hs : swapsWithSole [.Name x p] a pos.line X.env = pure false := by rfl) (hw : swappedStores [.Name x p] a X.env = pure none := by rfl) : CS f X W ca (.Assign [.Name x p] a pos) (mAsgO i mas) :=
  PS.imp (ps_asg he (pg_name (i := i) hN hi hx hf) hs hw rfl) fun De σ H h => by
    obtain ⟨B, n, ρ, E, R, hm, hn, hr, hb, hc, hx⟩ := h
    exact ⟨B, n, ρ, _, E.ex ρ, R, hm, fun ds p vs H' q e s hp h1 r => hn _ _ H' _ q (R.setOwn e s hp h1 r), fun x cls dd H' q e s er => hx B x cls dd σ H' ρ q (R.kp e s) er⟩
/-- an own list is written anew -/
theorem Rel.putOwn {B : Addr → Prop} {σ : L2.St} {H : Hp} {ρ : Rho} {n i : Nat} {p : Addr} {ds es : List D} {us : List V} (R : Rel f B σ H ρ n) (hi : ρ[i]? = some (.own ds)) (hs : σ[i]? = some (some (.ref p))) (hB : B p) (h0 : f.H0 p = none) (r : Reps f.g B H us es) :
    Rel f B σ (L2.upd H p (.lst us)) (ρ.set i (.own es)) n := by
  have hl : i < ρ.length := (List.getElem?_eq_some_iff.mp hi).1
  refine ⟨R.ok.upd hB h0, by rw [List.length_set, R.len], fun j x o h2 h3 => ?_, fun a b q x y ne h2 o2 h3 o3 s2 => ?_⟩
  · rcases set_cases h2 with ⟨e1, e2, _⟩ | ⟨e1, h2⟩
    · subst e1; subst e2
      rw [hs] at h3; cases h3
      exact ⟨p, us, rfl, hB, h0, upd_same, r.upd hB⟩
    · have q := R.sl j x o h2 h3
      cases x with
      | un => trivial
      | dat d =>
        obtain ⟨v, e1, r⟩ := q
        exact ⟨v, e1, r.upd hB⟩
      | own ds' =>
        obtain ⟨p', vs, e2, b, h0', hp', r⟩ := q
        have ne : p' ≠ p := fun z => R.inj i j p _ _ e1 hi rfl h2 rfl hs (by rw [h3, e2, z])
        exact ⟨p', vs, e2, b, h0', by rw [upd_ne ne]; exact hp', r.upd hB⟩
      | ownt ds' =>
        obtain ⟨p', vs, e2, b, h0', hp', r⟩ := q
        have ne : p' ≠ p := fun z => R.inj i j p _ _ e1 hi rfl h2 rfl hs (by rw [h3, e2, z])
        exact ⟨p', vs, e2, b, h0', by rw [upd_ne ne]; exact hp', r.upd hB⟩
      | kt d =>
        obtain ⟨v, e1, r⟩ := q
        exact ⟨v, e1, r.upd hB⟩
      | ownd ds' =>
        obtain ⟨p', vs, e2, b, h0', hp', r⟩ := q
        have ne : p' ≠ p := fun z => R.inj i j p _ _ e1 hi rfl h2 rfl hs (by rw [h3, e2, z])
        exact ⟨p', vs, e2, b, h0', by rw [upd_ne ne]; exact hp', r.upd hB⟩
  · rcases set_cases h2 with ⟨e1, e2, l1⟩ | ⟨e1, h2⟩
    · rcases set_cases h3 with ⟨e3, _⟩ | ⟨e3, h3⟩
      · exact absurd (e1.symm.trans e3) ne
      · subst e1
        exact R.inj i b q _ y ne hi rfl h3 o3 s2
    · rcases set_cases h3 with ⟨e3, e4, l3⟩ | ⟨e3, h3⟩
      · subst e3
        exact R.inj a i q x _ ne h2 o2 hi rfl s2
      · exact R.inj a b q x y ne h2 o2 h3 o3 s2
def mApp (i : Nat) (e : ME) : MS := fun ρ E => match ρ[i]? with
  | some (.own ds) => e ρ (fun d => ds.length < sizeLine ∧ E.nx (ρ.set i (.own (ds ++ [d])))) (E.ex ρ)
  | _ => False
theorem Rel.ownAt {B : Addr → Prop} {σ : L2.St} {H : Hp} {ρ : Rho} {n i : Nat} {ds : List D} (R : Rel f B σ H ρ n) (e : ρ[i]? = some (.own ds)) : ∃ p vs, σ[i]? = some (some (.ref p)) ∧ B p ∧ f.H0 p = none ∧ H p = some (.lst vs) ∧ Reps f.g B H vs ds := by
  have hl : i < σ.length := by rw [R.len]; exact (List.getElem?_eq_some_iff.mp e).1
  obtain ⟨p, vs, e1, r⟩ := R.sl i _ _ e (List.getElem?_eq_getElem hl)
  exact ⟨p, vs, by rw [List.getElem?_eq_getElem hl, e1], r⟩
theorem cs_app {i : Nat} {x : Str} {px apos cpos : Pos} (he : CE f X W ca a ma) (hN : X.N[i]? = some x := by rfl) (hv : Vis X.env.scope x := by first | exact Or.inl rfl | exact Or.inr (Or.inl rfl) | exact Or.inr (Or.inr rfl)) (hd : (x == ("__debug__" : Str)) = false := by decide) (hcd : (x == ("__classdict__" : Str)) = false := by decide)
    (hbase : attributeBase (.Name x px) "append" X.env (eval (.Name x px) X.env) = eval (.Name x px) X.env := by rfl)
    (hfew : ((backTo cpos (starEach [a] X.env)).all (fun x => !x.1) && (backToKw cpos (keywordEach [] X.env)).all (fun x => x.1.isSome)
      && decide ([a].length + ([] : List Keyword).length + (if ([] : List Keyword).isEmpty then 0 else 1) < 30)) = true := by rfl)
    (hline : (apos.endLine == cpos.line) = true := by rfl) (hst : starEach [a] X.env = (false, eval a X.env) :: starEach [] X.env := by rfl) (hplain : (backTo cpos (starEach [] X.env)).any (·.1) = false := by rfl)
    (hs : swapsWith (.Call (.Attribute (.Name x px) "append" apos) [a] [] cpos) none pos.line X.env = pure false := by rfl) :
    CS f X W ca (.Expr (.Call (.Attribute (.Name x px) "append" apos) [a] [] cpos) pos) (mApp i ma) :=
  PS.imp (ps_expr (pe_bm PySem.F.plainAttrs_list PySem.F.slot_list_append PySem.F.type_list_append mt_append (pe_var hN hv hd hcd) (pa_cons he pa_nil hst) hbase hfew hline hst hplain) hs) fun De σ H h => by
    obtain ⟨B, n, ρ, E, R, hm, hn, hr, hb, hc, hx⟩ := h
    unfold mApp at hm
    split at hm
    · rename_i ds e
      obtain ⟨p, vs, es, hB, h0, hp, r⟩ := R.ownAt e
      refine ⟨.ref p, es, .inl ⟨rfl, vs, .inl (.inl hp)⟩, ?_⟩
      refine rd_i (m := n) R hm (fun d v H1 h1 e1 R1 r1 => ?_) fun x cls dd H' q e s er => hx B x cls dd σ H' ρ q (R.kp e s) er
      have hp1 : H1 p = some (.lst vs) := e1 _ _ (R.ok.nS h0) hp
      refine ⟨p, vs, v, rfl, rfl, hp1, by rw [r.length]; exact h1.1, ?_⟩
      exact hn B σ _ _ h1.2 (R1.putOwn e es hB h0 ((r.kp R.ok e1).append (.cons r1 .nil)))
    · exact hm.elim
/-! an own list becomes a datum -/
def mFz (i : Nat) (m : MS) : MS := fun ρ E => match ρ[i]? with
  | some (.own ds) => m (ρ.set i (.dat (.lst ds))) E
  | _ => m ρ E
theorem Rel.frz {B : Addr → Prop} {σ : L2.St} {H : Hp} {ρ : Rho} {n i : Nat} {ds : List D} (R : Rel f B σ H ρ n) (e : ρ[i]? = some (.own ds)) : ∃ B', Rel f B' σ H (ρ.set i (.dat (.lst ds))) n := by
  obtain ⟨p, vs, es, hB, h0, hp, r⟩ := R.ownAt e
  have hl : i < ρ.length := (List.getElem?_eq_some_iff.mp e).1
  have mv : ∀ a o, H a = some o → ¬ B a → H a = some o ∧ ¬ (B a ∧ a ≠ p) := fun a o h nb => ⟨h, fun z => nb z.1⟩
  refine ⟨fun a => B a ∧ a ≠ p, ⟨R.ok.s0, R.ok.d0, fun a h => ⟨R.ok.b0 a h, fun z => R.ok.own0 h0 (z ▸ h)⟩, fun a h => R.ok.ow a h.1, fun a h => R.ok.dom a h.1, R.ok.keep, R.ok.src⟩, by rw [List.length_set, R.len], fun j x o h2 h3 => ?_, fun a b q x y ne h2 o2 h3 o3 s2 => ?_⟩
  · rcases set_cases h2 with ⟨e1, e2, _⟩ | ⟨e1, h2⟩
    · subst e1; subst e2
      rw [es] at h3; cases h3
      exact ⟨_, rfl, .lst hp (fun z => z.2 rfl) (r.move mv)⟩
    · have q := R.sl j x o h2 h3
      cases x with
      | un => trivial
      | dat d =>
        obtain ⟨v, e1, r⟩ := q
        exact ⟨v, e1, r.move mv⟩
      | own ds' =>
        obtain ⟨p', vs, e2, b, h0', hp', r⟩ := q
        have ne : p' ≠ p := fun z => R.inj i j p _ _ e1 e rfl h2 rfl es (by rw [h3, e2, z])
        exact ⟨p', vs, e2, ⟨b, ne⟩, h0', hp', r.move mv⟩
      | ownt ds' =>
        obtain ⟨p', vs, e2, b, h0', hp', r⟩ := q
        have ne : p' ≠ p := fun z => R.inj i j p _ _ e1 e rfl h2 rfl es (by rw [h3, e2, z])
        exact ⟨p', vs, e2, ⟨b, ne⟩, h0', hp', r.move mv⟩
      | kt d =>
        obtain ⟨v, e1, r⟩ := q
        exact ⟨v, e1, r.move mv⟩
      | ownd ds' =>
        obtain ⟨p', vs, e2, b, h0', hp', r⟩ := q
        have ne : p' ≠ p := fun z => R.inj i j p _ _ e1 e rfl h2 rfl es (by rw [h3, e2, z])
        exact ⟨p', vs, e2, ⟨b, ne⟩, h0', hp', r.move mv⟩
  · rcases set_cases h2 with ⟨e1, e2, l1⟩ | ⟨e1, h2⟩
    · subst e2; cases o2
    · rcases set_cases h3 with ⟨e3, e4, l3⟩ | ⟨e3, h3⟩
      · subst e4; cases o3
      · exact R.inj a b q x y ne h2 o2 h3 o3 s2
theorem cs_fz (i : Nat) {st : Stmt} {ms : MS} (h : CS f X W ca st ms) : CS f X W ca st (mFz i ms) := PS.imp h fun De σ H h => by
  obtain ⟨B, n, ρ, E, R, hm, k⟩ := h
  unfold mFz at hm
  split at hm
  · rename_i ds e
    obtain ⟨B', R'⟩ := R.frz e
    exact ⟨B', n, _, E, R', hm, k⟩
  · exact ⟨B, n, ρ, E, R, hm, k⟩
end
end Hm
set_option Elab.async false
set_option linter.all false
set_option maxRecDepth 100000
set_option maxHeartbeats 2000000
namespace Hm
open PySem L2 PySem.Spec PyProof.Rows

/-! ### the source: a draw; its making -/
abbrev rMod : R2 := rI (fun _ j => 0 < j) fun i j => .int (i % j)
abbrev rAddI : R2 := rI0 fun i j => .int (i + j)
abbrev rInt1 : List V → Hp → VK → Prop := fun xs H Q => (∃ i, xs = [.int i] ∧ Q (.int i) H) ∨ ∃ k, xs = [.bl k] ∧ Q (.int (if k then 1 else 0)) H
abbrev rLenB (K : PySem.W.Frag) : List V → Hp → VK → Prop := fun xs H Q => ∃ x n, xs = [x] ∧ LenV K x H n ∧ Q (.int n) H
abbrev rPowI : R2 := rI CPowW fun i j => .int (i ^ j.toNat)
abbrev rGeI : R2 := rI0 fun i j => .bl (decide (j ≤ i))
abbrev rDivI : R2 := rI CDivW fun i j => .int (i / j)
abbrev rMulI : R2 := rI CMulW fun i j => .int (i * j)
abbrev tInt (t : TE) : TE := tCB rInt1 (tCons t tNil)
/-- slots: source, limit, cells, turn, place, cell, number -/
def t_draw (K : PySem.W.Frag) : TS :=
  tSeq (tAsg (tVar 0) (gLst K 2 (gCons (gName 2) (gCons (gName 3) gNil))))
  (tSeq (tAsg (tOp rMod (tInt (tVar 3)) (tCB (rLenB K) (tCons (tVar 2) tNil))) (gName 4))
  (tSeq (tAsg (tOp (rIxL K) (tVar 2) (tVar 4)) (gName 5))
  (tSeq (tAsg (tOp rAddI (tVar 3) (tC (.int 1))) (gSub (tVar 0) (tC (.int 1)) rSetL))
  (tSeq (tIfS (tTest (tOp rGeI (tVar 5) (tOp rPowI (tC (.int 10)) (tC (.int 18)))))
    (tSeq (tAsg (tOp rDivI (tVar 5) (tVar 1)) (gSub (tVar 2) (tVar 4) rSetL)) (tRet (tOp rMod (tInt (tVar 5)) (tVar 1)))) tNext)
  (tSeq (tAsg (tOp rMod (tInt (tOp rAddI (tOp rAddI (tOp rMulI (tOp rMod (tInt (tVar 5)) (tC (.int 2147483629))) (tC (.int 48271))) (tOp rMulI (tOp rMulI (tVar 3) (tVar 3)) (tC (.int 69621)))) (tC (.int 11)))) (tC (.int 2147483647))) (gName 6))
  (tSeq (tAsg (tOp rMod (tInt (tOp rMulI (tVar 6) (tVar 6))) (tC (.int 2147483629))) (gName 6))
  (tSeq (tAsg (tOp rMod (tInt (tOp rMulI (tVar 6) (tVar 6))) (tC (.int 2147483587))) (gName 6))
  (tRet (tOp rMod (tInt (tVar 6)) (tVar 1))))))))))
def m_draw : MF := fun ds Q _ => match ds with
  | [.src, .int lim] => (0 < lim ∧ lim < 2 ^ 200) ∧ ∀ r, 0 ≤ r → r < lim → Q (.int r)
  | _ => False
theorem small_log {i : Int} {b : Nat} (h : i.natAbs < 2 ^ b) (h0 : 0 < b) : i.natAbs.log2 < b := PySem.Flt.log2_lt_of h0 h
theorem mul_small {i j : Int} (h : 0 ≤ i) (h2 : i < 2147483648) (h3 : 0 ≤ j) (h4 : j < 2147483648) : CMulW i j := wide_mul (a := 31) (b := 31) (by omega) (by omega) (by omega) (by omega) (by omega)
theorem srcLine_lt : srcLine.natAbs < 2 ^ 20001 := by
  unfold srcLine
  rw [Int.natAbs_pow]
  exact Nat.pow_lt_pow_right (by decide) (by decide)
theorem turn_nat {turn : Int} (h0 : 0 ≤ turn) (h : turn ≤ srcLine) : turn.natAbs < 2 ^ 20001 := Nat.lt_of_le_of_lt (by omega) srcLine_lt
theorem pure_draw {K : PySem.W.Frag} {src : Option (Addr × Addr)} {ct : Str → Option Addr} {lim : Int} {s c : Addr} {H : Hp} {n : Nat} {De : Ends} {x2 x3 x4 x5 x6 : Option V} (hs : src = some (s, c)) (hl : 0 < lim) (hl2 : lim < 2 ^ 200) (S : SrcOk ⟨K, ct, src⟩ H (n + 1))
    (hq : ∀ r H', 0 ≤ r → r < lim → Kp ⟨K, ct, src⟩ H H' → SrcOk ⟨K, ct, src⟩ H' n → De.rt (.int r) H') : t_draw K De [some (.ref s), some (.int lim), x2, x3, x4, x5, x6] H := by
  obtain ⟨cells, turn, nsc, h1, h2, hne, hlen, ht0, ht1⟩ := S s c hs
  have hpos : 0 < cells.length := List.length_pos_iff.mpr hne
  have hm0 : 0 ≤ turn % (cells.length : Int) := Int.emod_nonneg _ (by omega)
  have hm1 : turn % (cells.length : Int) < cells.length := Int.emod_lt_of_pos _ (by omega)
  obtain ⟨j, hj⟩ := Int.eq_ofNat_of_zero_le hm0
  have hjl : j < cells.length := by omega
  have inS : ∀ a, InS ⟨K, ct, src⟩ a ↔ (a = s ∨ a = c) := fun a => by
    constructor
    · rintro ⟨s', c', e, z⟩
      have e' : src = some (s', c') := e
      rw [hs] at e'; cases e'; exact z
    · exact fun z => ⟨s, c, hs, z⟩
  -- cells, turn = source
  refine ⟨_, rfl, s, _, rfl, .inl (.inl h1), rfl, _, _, rfl, _, _, rfl, rfl, ?_⟩
  -- place
  refine ⟨_, rfl, .inl ⟨turn, rfl, ?_⟩⟩
  refine ⟨_, rfl, _, cells.length, rfl, .inl ⟨cells.map V.int, .inl (.inl h2), by rw [List.length_map]⟩, turn, cells.length, rfl, rfl, by omega, ?_⟩
  -- cell
  have hat : atI (cells.map V.int) (turn % (cells.length : Int)) = some (.int cells[j]) := by
    rw [hj]
    exact atI_nat (by rw [List.getElem?_map, List.getElem?_eq_getElem hjl]; rfl)
  refine ⟨_, rfl, _, rfl, c, cells.map V.int, _, _, rfl, rfl, .inl (.inl h2), hat, ?_⟩
  -- source[1] = turn + 1
  refine ⟨_, rfl, turn, 1, rfl, rfl, _, rfl, s, [.ref c, .int turn], 1, 1, rfl, rfl, h1, rfl, ?_⟩
  have h1' : upd H s (.lst ([V.ref c, .int turn].set 1 (.int (turn + 1)))) s = some (.lst [.ref c, .int (turn + 1)]) := upd_same
  have h2' : upd H s (.lst ([V.ref c, .int turn].set 1 (.int (turn + 1)))) c = some (.lst (cells.map V.int)) := by rw [upd_ne (Ne.symm nsc)]; exact h2
  refine ⟨_, rfl, 10, 18, rfl, rfl, ⟨by decide, by decide⟩, _, _, rfl, rfl, _, rfl, ?_⟩
  dsimp only
  by_cases hb : (10 : Int) ^ (18 : Int).toNat ≤ cells[j]
  · rw [if_pos (decide_eq_true hb)]
    have hb0 : 0 ≤ cells[j] := Int.le_trans (by decide) hb
    refine ⟨_, rfl, _, rfl, cells[j], lim, rfl, rfl, ⟨hl, ?_⟩, _, rfl, _, rfl, c, cells.map V.int, (turn % (cells.length : Int)), j, rfl, rfl, h2', ?_, ?_⟩
    · refine Nat.lt_of_lt_of_le (small_log (b := 200) ?_ (by decide)) (by decide)
      have e : lim = (lim.natAbs : Int) := by omega
      rw [e] at hl2
      exact_mod_cast hl2
    · rw [hj, List.length_map]
      unfold ixN
      rw [if_pos (by omega), if_pos (by omega)]
      simp
    · refine ⟨_, rfl, .inl ⟨cells[j], rfl, _, rfl, cells[j], lim, rfl, rfl, hl, ?_⟩⟩
      refine hq _ _ (Int.emod_nonneg _ (by omega)) (Int.emod_lt_of_pos _ hl) (fun a o na ha => ?_) (fun s' c' e => ?_)
      · rw [inS] at na
        rw [upd_ne (fun z => na (.inr z)), upd_ne (fun z => na (.inl z))]
        exact ha
      · have e' : src = some (s', c') := e
        rw [hs] at e'; cases e'
        refine ⟨cells.set j (cells[j] / lim), turn + 1, nsc, ?_, ?_, ?_, ?_, by omega, by omega⟩
        · rw [upd_ne nsc]; exact h1'
        · rw [upd_same, List.map_set]
        · exact fun z => hne (List.eq_nil_of_length_eq_zero (by rw [← List.length_set (as := cells) (i := j) (a := cells[j] / lim), z]; rfl))
        · rw [List.length_set]; exact hlen
  · rw [if_neg (by simpa using hb)]
    have tn := turn_nat ht0 (by omega)
    have a0 : 0 ≤ cells[j] % 2147483629 := Int.emod_nonneg _ (by decide)
    have a1 : cells[j] % 2147483629 < 2147483629 := Int.emod_lt_of_pos _ (by decide)
    refine ⟨_, rfl, .inl ⟨cells[j], rfl, cells[j], 2147483629, rfl, rfl, (show (0 : Int) < 2147483629 by decide), _, 48271, rfl, rfl, mul_small a0 (by omega) (by decide) (by decide), ?_⟩⟩
    refine ⟨_, rfl, _, rfl, turn, turn, rfl, rfl, wide_mul (a := 20001) (b := 20001) tn tn (by decide) (by decide) (by decide), _, 69621, rfl, rfl, wide_mul (a := 40002) (b := 20) (wide_lt tn tn) (by decide) (by decide) (by decide) (by decide), ?_⟩
    refine ⟨_, _, rfl, rfl, _, 11, rfl, rfl, .inl ⟨_, rfl, _, 2147483647, rfl, rfl, (show (0 : Int) < 2147483647 by decide), ?_⟩⟩
    dsimp only
    generalize hx : (cells[j] % 2147483629 * 48271 + turn * turn * 69621 + 11) % 2147483647 = x
    have x0 : 0 ≤ x := by rw [← hx]; exact Int.emod_nonneg _ (by decide)
    have x1 : x < 2147483647 := by rw [← hx]; exact Int.emod_lt_of_pos _ (by decide)
    refine ⟨_, rfl, _, rfl, x, x, rfl, rfl, mul_small x0 (by omega) x0 (by omega), .inl ⟨_, rfl, _, 2147483629, rfl, rfl, (show (0 : Int) < 2147483629 by decide), ?_⟩⟩
    dsimp only
    generalize hy : x * x % 2147483629 = y
    have y0 : 0 ≤ y := by rw [← hy]; exact Int.emod_nonneg _ (by decide)
    have y1 : y < 2147483629 := by rw [← hy]; exact Int.emod_lt_of_pos _ (by decide)
    refine ⟨_, rfl, _, rfl, y, y, rfl, rfl, mul_small y0 (by omega) y0 (by omega), .inl ⟨_, rfl, _, 2147483587, rfl, rfl, (show (0 : Int) < 2147483587 by decide), ?_⟩⟩
    refine ⟨_, rfl, .inl ⟨_, rfl, _, rfl, _, lim, rfl, rfl, hl, ?_⟩⟩
    refine hq _ _ (Int.emod_nonneg _ (by omega)) (Int.emod_lt_of_pos _ hl) (fun a o na ha => ?_) (fun s' c' e => ?_)
    · rw [inS] at na
      rw [upd_ne (fun z => na (.inl z))]
      exact ha
    · have e' : src = some (s', c') := e
      rw [hs] at e'; cases e'
      exact ⟨cells, turn + 1, nsc, h1', h2', hne, hlen, by omega, by omega⟩
theorem fn_draw {P : Program} {w : World} {K : PySem.W.Frag} {mg : Str → Option Value} {base : Heap} {ct : Str → Option Addr} {x qual : Str} {st : Stmt} {fa : Addr} {fd : FuncData} {N ps : List Str} {k : Nat} (F : Fun K x qual st fa fd) (S : FnScope N ps (defScope st)) (hN : N.length = 7) (hp : ps.length = 2)
    (body : ∀ (cdv : Value) (A : Around) (outer : List Env) (s : Shared) (H : Hp) (E : XK), PSs (cxOf (L2.CX P w) P w K mg base N qual (defScope st) fa cdv A outer s H E) (defBody st) (t_draw K)) : FnD P w K mg base ct (k + 1) fa fd ps 1 m_draw := by
  have red : ∀ {ds : List D} {Q : DK} {W : XKD}, m_draw ds Q W → ∃ lim, ds = [.src, .int lim] ∧ (0 < lim ∧ lim < 2 ^ 200) ∧ ∀ r, 0 ≤ r → r < lim → Q (.int r) := fun {ds Q W} h => by
    unfold m_draw at h
    split at h
    · exact ⟨_, rfl, h⟩
    · exact h.elim
  refine F.okX S (fun vs H Q E h => ?_) (fun cdv A outer s H vs Q E hr h => ?_)
  · obtain ⟨src, B, n, ds, Q0, W0, h1, h2, h3, h4, h5, _⟩ := h
    obtain ⟨lim, rfl, _⟩ := red h5
    rw [h4.length, hp]; rfl
  · obtain ⟨src, B, n, ds, Q0, W0, h1, h2, h3, h4, h5, h6, h7⟩ := h
    obtain ⟨lim, rfl, ⟨l1, l2⟩, l3⟩ := red h5
    refine ⟨_, body cdv A outer s H E, ?_⟩
    cases h4 with
    | cons r1 r2 =>
      cases r2 with
      | cons r2 r3 =>
        cases r3; cases r2
        cases r1 with
        | src e =>
          have es : ∀ s' : Addr, L2.start N [.ref s', .int lim] = [some (.ref s'), some (.int lim), none, none, none, none, none] := fun s' => by
            unfold L2.start
            rw [hN]; rfl
          rw [es]
          exact pure_draw e l1 l2 h3 fun r H' a b e s => h6 _ _ H' (l3 r a b) e s (.int r)
end Hm
set_option Elab.async false
set_option linter.all false
set_option maxRecDepth 100000
set_option maxHeartbeats 2000000
namespace Hm
open PySem L2 PySem.Spec PyProof.Rows

abbrev rAbs1 : List V → Hp → VK → Prop := fun xs H Q => ∃ i, xs = [.int i] ∧ Q (.int (if i < 0 then -i else i)) H
/-- slots: script, cells, k -/
def t_source (K : PySem.W.Frag) : TS :=
  tSeq (tAsg (tSl (rSlL K) (tVar 0) tNoPart (tPart (tC (.int 63)))) (gName 1))
  (tSeq (tFor (iRng1 (tCons (tCB (rLenB K) (tCons (tVar 1) tNil)) tNil)) (gName 2)
    (tIfS (tTest (tOp rGeI (tCB rAbs1 (tCons (tOp (rIxL K) (tVar 1) (tVar 2)) tNil)) (tOp rPowI (tC (.int 10)) (tC (.int 18)))))
      (tAsg (tOp rMod (tInt (tOp (rIxL K) (tVar 1) (tVar 2))) (tOp rPowI (tOp rPowI (tC (.int 10)) (tC (.int 60))) (tC (.int 20)))) (gSub (tVar 1) (tVar 2) rSetL)) tNext))
  (tSeq (tIfS (tTest (tOp (rEqD K) (tVar 1) (tLst tNil))) (tAsg (tLst (tCons (tC (.int 0)) tNil)) (gName 1)) tNext)
  (tRet (tLst (tCons (tVar 1) (tCons (tC (.int 0)) tNil))))))
def spSource (K : PySem.W.Frag) : Sp := fun vs H Q _ => ∃ (a : Addr) (ns : List Int), vs = [.ref a] ∧ SqL K H a (ns.map V.int) ∧ ns.length ≤ 63 ∧
  ∀ s c H', Gw H H' → H s = none → H c = none → SrcAt H' s c (2 ^ 19999) → Q (.ref s) H'
theorem ints_shaped (ns : List Int) : SeqAt.shaped (.list (ns.map PyData.int)) = true := by
  have h1 : ∀ ns : List Int, PyData.canLayAll0 (ns.map PyData.int) = true := fun ns => by
    induction ns with
    | nil => rfl
    | cons x r ih => simp only [List.map_cons, PyData.canLayAll0, PyData.canLay0, ih, Bool.and_self]
  have h2 : ∀ ns : List Int, PyData.depthAll (ns.map PyData.int) = 0 := fun ns => by
    induction ns with
    | nil => rfl
    | cons x r ih => simp only [List.map_cons, PyData.depthAll, PyData.depth, ih, Nat.max_self]
  unfold SeqAt.shaped
  simp only [PyData.canLay0, PyData.depth, h1, h2]
  decide
theorem ints_dp {K : PySem.W.Frag} {H : Hp} : ∀ ns : List Int, DpAll K H (ns.map V.int) (ns.map PyData.int)
  | [] => .nil
  | _ :: r => .cons (.int _) (ints_dp r)
theorem big_nat : ((2 ^ 19999 : Nat) : Int) ≤ srcLine := by
  unfold srcLine
  have : (2 : Nat) ^ 19999 ≤ 2 ^ 20000 := Nat.pow_le_pow_right (by decide) (by decide)
  exact_mod_cast this
theorem pure_source {K : PySem.W.Frag} {De : Ends} {a : Addr} {ns : List Int} {H : Hp} (hS : SqL K H a (ns.map V.int)) (hlen : ns.length ≤ 63) (hq : ∀ s c H', Gw H H' → H s = none → H c = none → SrcAt H' s c (2 ^ 19999) → De.rt (.ref s) H') :
    t_source K De [some (.ref a), none, none] H := by
  refine ⟨_, rfl, 63, rfl, a, ns.map V.int, rfl, hS, fun c hc => ?_⟩
  obtain ⟨ms, em, lm⟩ : ∃ ms : List Int, cutV (ns.map V.int) none (some 63) = ms.map V.int ∧ ms.length ≤ 63 := by
    refine ⟨(ns.drop (HT.sIx (ns.map V.int).length 0 none)).take (HT.sIx (ns.map V.int).length (ns.map V.int).length (some 63) - HT.sIx (ns.map V.int).length 0 none), ?_, ?_⟩
    · unfold cutV
      rw [List.map_take, List.map_drop]
    · rw [List.length_take, List.length_drop]
      omega
  rw [em]
  have gw : Gw H (upd H c (.lst (ms.map V.int))) := Gw.new hc
  refine ⟨_, rfl, _, ms.length, rfl, .inl ⟨ms.map V.int, .inl (.inl upd_same), by rw [List.length_map]⟩, (ms.length : Int), rfl, by omega, by omega, ?_⟩
  refine for_range (lo := 0) (n := (ms.length : Int).toNat) (fun i σ H' => ∃ (x : Option V) (cs : List Int), σ = [some (.ref a), some (.ref c), x] ∧ cs.length = ms.length ∧ H' c = some (.lst (cs.map V.int)) ∧ Gw H H') ⟨none, ms, rfl, rfl, upd_same, gw⟩ ?_ ?_
  · rintro i σ H' hi ⟨x, cs, rfl, hcl, hcs, gw'⟩
    have hi' : i < cs.length := by omega
    have hat : atI (cs.map V.int) (0 + (i : Int)) = some (.int cs[i]) := by
      rw [Int.zero_add]
      exact atI_nat (by rw [List.getElem?_map, List.getElem?_eq_getElem hi']; rfl)
    refine ⟨_, rfl, _, rfl, c, _, _, _, rfl, rfl, .inl (.inl hcs), hat, cs[i], rfl, 10, 18, rfl, rfl, ⟨by decide, by decide⟩, _, _, rfl, rfl, _, rfl, ?_⟩
    refine ite2 (fun _ => ?_) (fun _ => ?_)
    · refine ⟨_, rfl, _, rfl, c, _, _, _, rfl, rfl, .inl (.inl hcs), hat, .inl ⟨cs[i], rfl, 10, 60, rfl, rfl, ⟨by decide, by decide⟩, _, 20, rfl, rfl, ⟨by decide, by decide⟩, _, _, rfl, rfl, (show (0 : Int) < (10 ^ (60 : Int).toNat) ^ (20 : Int).toNat by decide), ?_⟩⟩
      refine ⟨_, rfl, _, rfl, c, _, _, i, rfl, rfl, hcs, ?_, ?_⟩
      · rw [Int.zero_add, List.length_map]
        unfold ixN
        rw [if_pos (by omega), if_pos (by omega)]
        simp
      · refine ⟨some (.int (0 + (i : Int))), cs.set i (cs[i] % (10 ^ (60 : Int).toNat) ^ (20 : Int).toNat), rfl, by rw [List.length_set]; exact hcl, by rw [upd_same, List.map_set], fun b o hb => ?_⟩
        rw [upd_ne (ne_of_none hb hc)]
        exact gw' b o hb
    · exact ⟨some (.int (0 + (i : Int))), cs, rfl, hcl, hcs, gw'⟩
  · rintro σ H' ⟨x, cs, rfl, hcl, hcs, gw'⟩
    refine ⟨_, rfl, Nat.zero_le _, fun p hp => ?_⟩
    have npc : c ≠ p := ne_of_none hcs hp
    have gp : Gw H' (upd H' p (.lst [])) := Gw.new hp
    refine ⟨.list (cs.map PyData.int), .list [], .lst (.inl (.inl (gp _ _ hcs))) (ints_dp cs), .lst (.inl (.inl upd_same)) .nil, ints_shaped cs, by decide, _, rfl, ?_⟩
    have fin : ∀ (c' : Addr) (cs' : List Int) (H2 : Hp), Gw H H2 → H c' = none → H2 c' = some (.lst (cs'.map V.int)) → cs' ≠ [] → cs'.length ≤ 63 → ∀ x, tRet (tLst (tCons (tVar 1) (tCons (tC (.int 0)) tNil))) De [some (.ref a), some (.ref c'), x] H2 := fun c' cs' H2 g2 hc' h2 ne l2 x => by
      refine ⟨_, rfl, (by show 2 ≤ sizeLine; decide), fun s hs => ?_⟩
      have hs0 : H s = none := by
        cases z : H s with
        | none => rfl
        | some o => rw [g2 s o z] at hs; cases hs
      refine hq s c' _ (g2.trans (Gw.new hs)) hs0 hc' ⟨cs', 0, fun z => ?_, upd_same, ?_, ne, l2, by decide, ?_⟩
      · rw [z, h2] at hs; cases hs
      · rw [upd_ne (ne_of_none h2 hs)]; exact h2
      · rw [Int.zero_add]; exact big_nat
    dsimp only
    by_cases e : cs = []
    · subst e
      rw [if_pos (by rfl)]
      refine ⟨(by show 1 ≤ sizeLine; decide), fun q hq' => ?_⟩
      have hq0 : H q = none := by
        cases z : H q with
        | none => rfl
        | some o => rw [gp _ _ (gw' q o z)] at hq'; cases hq'
      exact fin q [0] _ ((gw'.trans gp).trans (Gw.new hq')) hq0 upd_same (by simp) (by decide) _
    · rw [if_neg ?_]
      · exact fin c cs _ (gw'.trans gp) hc (gp _ _ hcs) e (by omega) _
      · cases cs with
        | nil => exact absurd rfl e
        | cons x r => exact Bool.false_ne_true
theorem fn_source {P : Program} {w : World} {K : PySem.W.Frag} {mg : Str → Option Value} {base : Heap} {x qual : Str} {st : Stmt} {fa : Addr} {fd : FuncData} {N ps : List Str} {k : Nat} (F : Fun K x qual st fa fd) (S : FnScope N ps (defScope st)) (hN : N.length = 3) (hp : ps.length = 1)
    (body : ∀ (cdv : Value) (A : Around) (outer : List Env) (s : Shared) (H : Hp) (E : XK), Room k (A.deeper (envOfC qual (defScope st) s.heap.objs.size fa cdv)) → PSs (cxOf (L2.CX P w) P w K mg base N qual (defScope st) fa cdv A outer s H E) (defBody st) (t_source K)) : FnOk P w K mg base (L2.CX P w) (k + 1) fa fd ps (spSource K) := by
  refine F.okX S (fun vs H Q E h => ?_) (fun cdv A outer s H vs Q E hr h => ?_)
  · obtain ⟨a, ns, rfl, _⟩ := h
    rw [hp]; rfl
  · obtain ⟨a, ns, rfl, h1, h2, h3⟩ := h
    refine ⟨_, body cdv A outer s H E hr, ?_⟩
    have es : L2.start N [.ref a] = [some (.ref a), none, none] := by
      unfold L2.start
      rw [hN]; rfl
    rw [es]
    exact pure_source h1 h2 h3

/-! ### the law: its source, then the rest over data -/
/-- slots: the script, the source, the law's own -/
def spLaw (K : PySem.W.Frag) (n : Nat) (m : MS) : Sp := fun vs H Q _ => ∃ (a : Addr) (ns : List Int), vs = [.ref a] ∧ SqL K H a (ns.map V.int) ∧ ns.length ≤ 63 ∧
  m (.un :: .dat .src :: List.replicate n .un) { nx := fun _ => False, rt := fun d => ∃ b, d = .bl b ∧ b = true, bk := fun _ => False, ct := fun _ => False, ex := fun _ _ => False } ∧ ∀ H', Q (.bl true) H'
theorem fn_law {P : Program} {w : World} {K : PySem.W.Frag} {mg : Str → Option Value} {base : Heap} {ct : Str → Option Addr} {x qual : Str} {st : Stmt} {fa fS : Addr} {fd fdS : FuncData} {N : List Str} {px y : Str} {k c n : Nat} {ms : MS} {sts : List Stmt} {p1 p2 p3 p4 p5 : Pos} {z : Str}
    (F : Fun K x qual st fa fd) (S : FnScope N [px] (defScope st)) (hN : N.length = n + 2) (hc : c ≤ 2 ^ 19999) (hst : defBody st = .Assign [.Name y p1] (.Call (.Name z p2) [.Name px p3] [] p4) p5 :: sts)
    (FS : FnOk P w K mg base (L2.CX P w) k fS fdS [px] (spSource K)) (hm : mg z = some (.ref fS)) (kS : PySem.W.keepIn K (.ref fS) = true) (bS : Binds K fdS [px] [])
    (h0 : N[0]? = some px) (h1 : N[1]? = some y) (l0 : (defScope st).names.lookup px = some .local) (l1 : Loc (defScope st) y) (gz : (defScope st).names.lookup z = some .globalImplicit)
    (hdb : (px == ("__debug__" : Str)) = false := by decide) (hcd : (px == ("__classdict__" : Str)) = false := by decide) (hdz : (z == ("__debug__" : Str)) = false := by decide)
    (body : ∀ (cdv : Value) (A : Around) (outer : List Env) (s : Shared) (H : Hp) (E : XK) (f : FrC), f.g.K = K → f.g.ct = ct → (f.N = fun _ => False) → Room k (A.deeper (envOfC qual (defScope st) s.heap.objs.size fa cdv)) →
      CB f (cxOf (L2.CX P w) P w K mg base N qual (defScope st) fa cdv A outer s H E) (fun cls d _ H => E cls d H) c sts ms) : FnOk P w K mg base (L2.CX P w) (k + 1) fa fd [px] (spLaw K n ms) := by
  refine F.okX S (fun vs H Q E h => ?_) (fun cdv A outer s H vs Q E hr h => ?_)
  · obtain ⟨a, ns, rfl, _⟩ := h
    rfl
  · obtain ⟨a, ns, rfl, hS, hl, hmm, hq⟩ := h
    rw [hst]
    have b := fun f hK hct hN => body cdv A outer s H E f hK hct hN hr
    have hr0 : PSs (cxOf (L2.CX P w) P w K mg base N qual (defScope st) fa cdv A outer s H E) sts (fun D σ H' => ∃ f : FrC, f.g.K = K ∧ f.g.ct = ct ∧ (f.N = fun _ => False) ∧ RS f (fun cls d _ H => E cls d H) c ms D σ H') := ⟨fun pins s σ H D I ⟨f, e1, e2, e3, q⟩ => (b f e1 e2 e3).run pins s σ H D I q⟩
    have hv : PE (cxOf (L2.CX P w) P w K mg base N qual (defScope st) fa cdv A outer s H E) (.Name px p3) (tVar 0) := pe_var h0 (.inl l0) hdb hcd
    have ht : Takes (cxOf (L2.CX P w) P w K mg base N qual (defScope st) fa cdv A outer s H E) (fun cls d _ H => E cls d H) := takes_of rfl rfl rfl rfl
    refine ⟨_, pss_cons (ps_asg (pe_callS FS hr gz hm kS bS (fun σ => passAt ht σ) (pa_cons hv pa_nil) hdz) (pg_name (i := 1) S.nd h1 l1 (.inl rfl))) hr0, ?_⟩
    have es : L2.start N [.ref a] = some (.ref a) :: none :: List.replicate n none := by
      unfold L2.start
      rw [hN]
      show some (V.ref a) :: List.replicate (n + 2 - 1) none = _
      rw [show n + 2 - 1 = n + 1 from rfl]; rfl
    rw [es]
    refine ⟨_, rfl, a, ns, rfl, hS, hl, fun so cl H1 gw hs hcn sa => ?_⟩
    refine ⟨⟨⟨K, ct, some (so, cl)⟩, fun b => b = so ∨ b = cl, H1, fun _ => False⟩, rfl, rfl, rfl, fun b => b = so ∨ b = cl, 2 ^ 19999 - c, _, _, ?_, hmm, fun _ _ _ _ z _ => z.elim, ?_, fun _ _ _ _ z _ => z.elim, fun _ _ _ _ z _ => z.elim, fun _ _ _ _ _ _ _ z _ _ => z.elim⟩
    · obtain ⟨cells, turn, ne, e1, e2, r⟩ := id sa
      have dm : ∀ b, (b = so ∨ b = cl) → H1 b ≠ none := fun b hb => by
        rcases hb with rfl | rfl
        · rw [e1]; exact fun z => nomatch z
        · rw [e2]; exact fun z => nomatch z
      refine ⟨⟨fun b hb => ?_, dm, fun b hb => hb, fun b hb => .inl hb, dm, Kp.refl _, fun s' c' e => ?_⟩, ?_, fun i x o h2 h3 => ?_, fun i j p x y _ h2 o2 => ?_⟩
      · obtain ⟨s', c', e, z⟩ := hb
        cases e; exact z
      · cases e
        have : 2 ^ 19999 - c + c = 2 ^ 19999 := Nat.sub_add_cancel hc
        rw [this]; exact sa
      · simp
      · match i with
        | 0 => cases h2; trivial
        | 1 =>
          cases h2; cases h3
          exact ⟨_, rfl, .src rfl⟩
        | i + 2 =>
          have h2' : (List.replicate n Sl.un)[i]? = some x := h2
          rw [List.getElem?_replicate] at h2'
          split at h2'
          · cases h2'; trivial
          · cases h2'
      · match i with
        | 0 => cases h2; cases o2
        | 1 => cases h2; cases o2
        | i + 2 =>
          have h2' : (List.replicate n Sl.un)[i]? = some x := h2
          rw [List.getElem?_replicate] at h2'
          split at h2'
          · cases h2'; cases o2
          · cases h2'
    · rintro d v H' ⟨b, rfl, rfl⟩ _ _ r
      cases r
      exact hq H'

/-! ### a def of the top -/
structure Df (K : PySem.W.Frag) (mg : Str → Option Value) (x : Str) (st : Stmt) (ps : List Str) (fa : Addr) (fd : FuncData) : Prop where
  F : Fun K x x st fa fd
  g : mg x = some (.ref fa)
  b : Binds K fd ps []
theorem rel_abs {u : Value} {v : V} (h : absV u = some v) : RelV v u := by
  cases u <;> first | (cases h; first | rfl | exact ⟨_, rfl⟩) | cases h
theorem vals_abs : ∀ {us : List Value} {vs : List V}, us.map absV = vs.map some → Vals vs us
  | [], [], _ => .nil
  | [], _ :: _, h => by cases h
  | _ :: _, [], h => by cases h
  | u :: us, v :: vs, h => by
    rw [List.map_cons, List.map_cons] at h
    injection h with h1 h2
    exact .cons (rel_abs h1) (vals_abs h2)
theorem wr_of {K : PySem.W.Frag} {a : Addr} {o : Obj} {its : Array Value} {n : Nat} {vs : List V} (w : K.lookup a = some o) (c : o.cls = .type "tuple") (d : o.data = .seq its n) (r : its.toList.map absV = vs.map some) (hl : vs.length ≤ sizeLine := by decide) : WrT K a vs := by
  refine ⟨o, its, n, w, c, d, ?_, vals_abs r⟩
  have e := congrArg List.length r
  rw [List.length_map, List.length_map] at e
  rw [← Array.length_toList, e]
  exact hl
theorem cx_end {P : Program} {w : World} {H : Hp} {s : Shared} {e : Value} {s' : Shared} (h : L2.CX P w [] H s (fun _ _ _ => False) e s') : False := by
  obtain ⟨_, _, _, _, _, _, _, _, _, _, _, _, z⟩ := h
  exact z.elim
end Hm
set_option Elab.async false
set_option linter.all false
set_option maxRecDepth 100000
set_option maxHeartbeats 2000000
namespace Hm
open PySem L2

/-! ### words for the mathematics -/
theorem map_nat_inj : ∀ {a b : List Char}, a.map Char.toNat = b.map Char.toNat → a = b
  | [], [], _ => rfl
  | [], _ :: _, h => by cases h
  | _ :: _, [], h => by cases h
  | x :: a, y :: b, h => by
    rw [List.map_cons, List.map_cons] at h
    injection h with h1 h2
    rw [map_nat_inj h2, Char.ext (UInt32.toNat_inj.mp h1)]
@[simp] theorem ofString_inj {a b : String} : (Str.ofString a = Str.ofString b) = (a = b) := by
  apply propext
  constructor
  · intro h
    rw [Str.ofString_eq_toList, Str.ofString_eq_toList] at h
    have h1 : (a.toList.map Char.toNat).toArray = (b.toList.map Char.toNat).toArray := congrArg Str.cps h
    have h2 : a.toList.map Char.toNat = b.toList.map Char.toNat := by simpa using h1
    exact String.toList_inj.mp (map_nat_inj h2)
  · exact fun h => h ▸ rfl
@[simp] theorem mVar_eq (i : Nat) (ρ : Rho) (Q : DK) (u2 : XKD) : mVar i ρ Q u2 = (datOf ρ[i]? Q) := Eq.trans rfl rfl
@[simp] theorem mC_eq (d : D) (u0 : Rho) (Q : DK) (u2 : XKD) : mC d u0 Q u2 = (Q d) := Eq.trans rfl rfl
@[simp] theorem mOp_eq (op : D → D → DK → Prop) (a b : ME) (ρ : Rho) (Q : DK) (W : XKD) : mOp op a b ρ Q W = (a ρ (fun x => b ρ (fun y => op x y Q) W) W) := Eq.trans rfl rfl
@[simp] theorem mUn_eq (op : D → DK → Prop) (a : ME) (ρ : Rho) (Q : DK) (W : XKD) : mUn op a ρ Q W = (a ρ (fun x => op x Q) W) := Eq.trans rfl rfl
@[simp] theorem mNil_eq  (u0 : Rho) (Q : List D → Prop) (u2 : XKD) : mNil  u0 Q u2 = (Q []) := Eq.trans rfl rfl
@[simp] theorem mCons_eq (a : ME) (r : MA) (ρ : Rho) (Q : List D → Prop) (W : XKD) : mCons a r ρ Q W = (a ρ (fun x => r ρ (fun xs => Q (x :: xs)) W) W) := Eq.trans rfl rfl
@[simp] theorem mTup_eq (a : MA) (ρ : Rho) (Q : DK) (W : XKD) : mTup a ρ Q W = (a ρ (fun xs => xs.length ≤ sizeLine ∧ Q (.tup xs)) W) := Eq.trans rfl rfl
@[simp] theorem mLst_eq (a : MA) (ρ : Rho) (Q : List D → Prop) (W : XKD) : mLst a ρ Q W = (a ρ (fun xs => xs.length ≤ sizeLine ∧ Q xs) W) := Eq.trans rfl rfl
@[simp] theorem mFrz_eq (a : MA) (ρ : Rho) (Q : DK) (W : XKD) : mFrz a ρ Q W = (a ρ (fun xs => Q (.lst xs)) W) := Eq.trans rfl rfl
@[simp] theorem mCall_eq (fn : MF) (a : MA) (ρ : Rho) (Q : DK) (W : XKD) : mCall fn a ρ Q W = (a ρ (fun xs => fn xs Q W) W) := Eq.trans rfl rfl
@[simp] theorem mBlt_eq (fn : List D → DK → Prop) (a : MA) (ρ : Rho) (Q : DK) (W : XKD) : mBlt fn a ρ Q W = (a ρ (fun xs => fn xs Q) W) := Eq.trans rfl rfl
@[simp] theorem mTest_eq (a : ME) (ρ : Rho) (Q : Bool → Prop) (W : XKD) : mTest a ρ Q W = (a ρ (fun x => asB x Q) W) := Eq.trans rfl rfl
@[simp] theorem mTruth_eq (a : ME) (ρ : Rho) (Q : Bool → Prop) (W : XKD) : mTruth a ρ Q W = (a ρ (fun x => tru x Q) W) := Eq.trans rfl rfl
@[simp] theorem mAnd_eq (a b : MT) (ρ : Rho) (Q : Bool → Prop) (W : XKD) : mAnd a b ρ Q W = (a ρ (fun x => if x = true then b ρ Q W else Q false) W) := Eq.trans rfl rfl
@[simp] theorem mOr_eq (a b : MT) (ρ : Rho) (Q : Bool → Prop) (W : XKD) : mOr a b ρ Q W = (a ρ (fun x => if x = true then Q true else b ρ Q W) W) := Eq.trans rfl rfl
@[simp] theorem mNot_eq (a : MT) (ρ : Rho) (Q : Bool → Prop) (W : XKD) : mNot a ρ Q W = (a ρ (fun x => Q (!x)) W) := Eq.trans rfl rfl
@[simp] theorem mAndV_eq (a b : ME) (ρ : Rho) (Q : DK) (W : XKD) : mAndV a b ρ Q W = (a ρ (fun x => asB x fun c => if c = true then b ρ Q W else Q (.bl false)) W) := Eq.trans rfl rfl
@[simp] theorem mOrV_eq (a b : ME) (ρ : Rho) (Q : DK) (W : XKD) : mOrV a b ρ Q W = (a ρ (fun x => asB x fun c => if c = true then Q (.bl true) else b ρ Q W) W) := Eq.trans rfl rfl
@[simp] theorem mNotV_eq (a : ME) (ρ : Rho) (Q : DK) (W : XKD) : mNotV a ρ Q W = (a ρ (fun x => asB x fun c => Q (.bl (!c))) W) := Eq.trans rfl rfl
@[simp] theorem mIf_eq (c : MT) (a b : ME) (ρ : Rho) (Q : DK) (W : XKD) : mIf c a b ρ Q W = (c ρ (fun x => if x = true then a ρ Q W else b ρ Q W) W) := Eq.trans rfl rfl
@[simp] theorem mChain_eq (op op' : D → D → DK → Prop) (a b c : ME) (ρ : Rho) (Q : DK) (W : XKD) : mChain op op' a b c ρ Q W = (a ρ (fun x => b ρ (fun y => op x y (fun z => asB z fun k => if k = true then c ρ (fun w => op' y w (fun z' => asB z' fun k' => Q (.bl k'))) W else Q (.bl false))) W) W) := Eq.trans rfl rfl
@[simp] theorem mNext_eq  (ρ : Rho) (E : DEnds) : mNext  ρ E = (E.nx ρ) := Eq.trans rfl rfl
@[simp] theorem mSeq_eq (a b : MS) (ρ : Rho) (E : DEnds) : mSeq a b ρ E = (a ρ { E with nx := fun ρ' => b ρ' E }) := Eq.trans rfl rfl
@[simp] theorem mAsg_eq (i : Nat) (e : ME) (ρ : Rho) (E : DEnds) : mAsg i e ρ E = (e ρ (fun d => E.nx (ρ.set i (.dat d))) (E.ex ρ)) := Eq.trans rfl rfl
@[simp] theorem mAsgO_eq (i : Nat) (e : MA) (ρ : Rho) (E : DEnds) : mAsgO i e ρ E = (e ρ (fun ds => E.nx (ρ.set i (.own ds))) (E.ex ρ)) := Eq.trans rfl rfl
@[simp] theorem mDrop_eq (e : ME) (ρ : Rho) (E : DEnds) : mDrop e ρ E = (e ρ (fun _ => E.nx ρ) (E.ex ρ)) := Eq.trans rfl rfl
@[simp] theorem mRet_eq (e : ME) (ρ : Rho) (E : DEnds) : mRet e ρ E = (e ρ E.rt (E.ex ρ)) := Eq.trans rfl rfl
@[simp] theorem mRetN_eq  (u0 : Rho) (E : DEnds) : mRetN  u0 E = (E.rt .non) := Eq.trans rfl rfl
@[simp] theorem mIfS_eq (c : MT) (a b : MS) (ρ : Rho) (E : DEnds) : mIfS c a b ρ E = (c ρ (fun x => if x = true then a ρ E else b ρ E) (E.ex ρ)) := Eq.trans rfl rfl
@[simp] theorem mBrk_eq  (ρ : Rho) (E : DEnds) : mBrk  ρ E = (E.bk ρ) := Eq.trans rfl rfl
@[simp] theorem mCnt_eq  (ρ : Rho) (E : DEnds) : mCnt  ρ E = (E.ct ρ) := Eq.trans rfl rfl
@[simp] theorem gNm_eq (i : Nat) (d : D) (ρ : Rho) (Q : Rho → Prop) : gNm i d ρ Q = (Q (ρ.set i (.dat d))) := Eq.trans rfl rfl
@[simp] theorem gTp_eq (is : List Nat) (d : D) (ρ : Rho) (Q : Rho → Prop) : gTp is d ρ Q = (asT d fun ds => ds.length = is.length ∧ Q (setAll ρ is ds)) := Eq.trans rfl rfl
@[simp] theorem mTo_eq (e : ME) (g : MG) (ρ : Rho) (E : DEnds) : mTo e g ρ E = (e ρ (fun d => g d ρ E.nx) (E.ex ρ)) := Eq.trans rfl rfl
@[simp] theorem mPar_eq (i j : Nat) (a b : ME) (ρ : Rho) (E : DEnds) : mPar i j a b ρ E = (a ρ (fun x => b ρ (fun y => E.nx ((ρ.set i (.dat x)).set j (.dat y))) (E.ex ρ)) (E.ex ρ)) := Eq.trans rfl rfl
@[simp] theorem mFor_eq (it : ME) (g : MG) (body : MS) (ρ : Rho) (E : DEnds) : mFor it g body ρ E = (it ρ (fun d => asL d fun xs => mForL g body xs ρ E) (E.ex ρ)) := Eq.trans rfl rfl
@[simp] theorem mForT_eq (it : ME) (g : MG) (body : MS) (ρ : Rho) (E : DEnds) : mForT it g body ρ E = (it ρ (fun d => asT d fun xs => mForL g body xs ρ E) (E.ex ρ)) := Eq.trans rfl rfl
@[simp] theorem mForR1_eq (a : ME) (g : MG) (body : MS) (ρ : Rho) (E : DEnds) : mForR1 a g body ρ E = (a ρ (fun d => asI d fun j => (-(2 ^ 62) ≤ j ∧ j < 2 ^ 62) ∧ mForL g body (rngD 0 j.toNat) ρ E) (E.ex ρ)) := Eq.trans rfl rfl
@[simp] theorem mForR2_eq (a b : ME) (g : MG) (body : MS) (ρ : Rho) (E : DEnds) : mForR2 a b g body ρ E = (a ρ (fun x => b ρ (fun y => asI x fun i => asI y fun j => (-(2 ^ 62) ≤ i ∧ i < 2 ^ 62 ∧ -(2 ^ 62) ≤ j ∧ j < 2 ^ 62) ∧ mForL g body (rngD i (j - i).toNat) ρ E) (E.ex ρ)) (E.ex ρ)) := Eq.trans rfl rfl
@[simp] theorem mRaise_eq (x : Err) (ρ : Rho) (E : DEnds) : mRaise x ρ E = (E.ex ρ x) := Eq.trans rfl rfl
@[simp] theorem mFun_eq (k n : Nat) (b : MS) (ds : List D) (Q : DK) (W : XKD) : mFun k n b ds Q W = (ds.length = k ∧ b (ds.map Sl.dat ++ List.replicate (n - k) .un) { nx := fun _ => Q .non, rt := Q, bk := fun _ => False, ct := fun _ => False, ex := fun _ x => W x }) := Eq.trans rfl rfl
@[simp] theorem mForB_eq (N : Nat) (it : ME) (g : MG) (body : MS) (ρ : Rho) (E : DEnds) : mForB N it g body ρ E = (it ρ (fun d => asL d fun xs => xs.length ≤ N ∧ mForL g body xs ρ E) (E.ex ρ)) := Eq.trans rfl rfl
@[simp] theorem mNoP_eq  (u0 : Rho) (Q : Option Int → Prop) (u2 : XKD) : mNoP  u0 Q u2 = (Q none) := Eq.trans rfl rfl
@[simp] theorem mPart_eq (e : ME) (ρ : Rho) (Q : Option Int → Prop) (W : XKD) : mPart e ρ Q W = (e ρ (fun d => asI d fun i => Q (some i)) W) := Eq.trans rfl rfl
@[simp] theorem mSl_eq (e : ME) (lo hi : MO) (ρ : Rho) (Q : DK) (W : XKD) : mSl e lo hi ρ Q W = (e ρ (fun x => lo ρ (fun l => hi ρ (fun u => dSl x l u Q) W) W) W) := Eq.trans rfl rfl
@[simp] theorem mYes_eq  (u0 : Rho) (Q : Bool → Prop) (u2 : XKD) : mYes  u0 Q u2 = (Q true) := Eq.trans rfl rfl
@[simp] theorem mLc_eq (it : ME) (g : MG) (t : MT) (e : ME) (vs : List Nat) (ρ : Rho) (Q : List D → Prop) (W : XKD) : mLc it g t e vs ρ Q W = (it ρ (fun d => asL d fun xs => mLcL g t e (wipeD ρ vs) xs [] Q) W) := Eq.trans rfl rfl
@[simp] theorem mLcB_eq (N : Nat) (it : ME) (g : MG) (t : MT) (e : ME) (vs : List Nat) (ρ : Rho) (Q : List D → Prop) (W : XKD) : mLcB N it g t e vs ρ Q W = (it ρ (fun d => asL d fun xs => xs.length ≤ N ∧ mLcL g t e (wipeD ρ vs) xs [] Q) W) := Eq.trans rfl rfl
@[simp] theorem mLcT_eq (it : ME) (g : MG) (t : MT) (e : ME) (vs : List Nat) (ρ : Rho) (Q : List D → Prop) (W : XKD) : mLcT it g t e vs ρ Q W = (it ρ (fun d => asT d fun xs => mLcL g t e (wipeD ρ vs) xs [] Q) W) := Eq.trans rfl rfl
@[simp] theorem mLcR1_eq (a : ME) (g : MG) (t : MT) (e : ME) (vs : List Nat) (ρ : Rho) (Q : List D → Prop) (W : XKD) : mLcR1 a g t e vs ρ Q W = (a ρ (fun d => asI d fun j => (-(2 ^ 62) ≤ j ∧ j < 2 ^ 62) ∧ mLcL g t e (wipeD ρ vs) (rngD 0 j.toNat) [] Q) W) := Eq.trans rfl rfl
@[simp] theorem mLcR2_eq (a b : ME) (g : MG) (t : MT) (e : ME) (vs : List Nat) (ρ : Rho) (Q : List D → Prop) (W : XKD) : mLcR2 a b g t e vs ρ Q W = (a ρ (fun x => b ρ (fun y => asI x fun i => asI y fun j => (-(2 ^ 62) ≤ i ∧ i < 2 ^ 62 ∧ -(2 ^ 62) ≤ j ∧ j < 2 ^ 62) ∧ mLcL g t e (wipeD ρ vs) (rngD i (j - i).toNat) [] Q) W) W) := Eq.trans rfl rfl
@[simp] theorem mApp_eq (i : Nat) (e : ME) (ρ : Rho) (E : DEnds) : mApp i e ρ E = (match ρ[i]? with
  | some (.own ds) => e ρ (fun d => ds.length < sizeLine ∧ E.nx (ρ.set i (.own (ds ++ [d])))) (E.ex ρ)
  | _ => False) := Eq.trans rfl rfl
@[simp] theorem mFz_eq (i : Nat) (m : MS) (ρ : Rho) (E : DEnds) : mFz i m ρ E = (match ρ[i]? with
  | some (.own ds) => m (ρ.set i (.dat (.lst ds))) E
  | _ => m ρ E) := Eq.trans rfl rfl
@[simp] theorem setAll_nil {ρ : Rho} {ds : List D} : setAll ρ [] ds = ρ := Eq.trans rfl rfl
@[simp] theorem setAll_cons {ρ : Rho} {i : Nat} {is : List Nat} {d : D} {ds : List D} : setAll ρ (i :: is) (d :: ds) = setAll (ρ.set i (.dat d)) is ds := Eq.trans rfl rfl
@[simp] theorem mForL_nil {g : MG} {b : MS} {ρ : Rho} {E : DEnds} : mForL g b [] ρ E = E.nx ρ := Eq.trans rfl rfl
@[simp] theorem mForL_cons {g : MG} {b : MS} {x : D} {r : List D} {ρ : Rho} {E : DEnds} : mForL g b (x :: r) ρ E = g x ρ (fun ρ' => b ρ' { E with nx := fun ρ2 => mForL g b r ρ2 E, ct := fun ρ2 => mForL g b r ρ2 E, bk := E.nx }) := Eq.trans rfl rfl
@[simp] theorem wipeD_nil {ρ : Rho} : wipeD ρ [] = ρ := Eq.trans rfl rfl
@[simp] theorem wipeD_cons {ρ : Rho} {v : Nat} {vs : List Nat} : wipeD ρ (v :: vs) = (wipeD ρ vs).set v .un := Eq.trans rfl rfl
@[simp] theorem isi_eq {T : String} {d : D} : d.isi T = isiO T d.tyS := Eq.trans rfl rfl
@[simp] theorem dIsi_eq {T : String} {x : D} {Q : DK} : dIsi T x Q = (x.tyS.isSome = true ∧ Q (.bl (x.isi T))) := Eq.trans rfl rfl
@[simp] theorem asB_bl {b : Bool} {Q : Bool → Prop} : asB (.bl b) Q = Q b := Eq.trans rfl rfl
@[simp] theorem tru_non  {Q : Bool → Prop} : tru .non Q = Q false := Eq.trans rfl rfl
@[simp] theorem tru_bl {b : Bool} {Q : Bool → Prop} : tru (.bl b) Q = Q b := Eq.trans rfl rfl
@[simp] theorem tru_int {i : Int} {Q : Bool → Prop} : tru (.int i) Q = Q (i != 0) := Eq.trans rfl rfl
@[simp] theorem tru_str {s : Str} {Q : Bool → Prop} : tru (.str s) Q = (s.length ≤ sizeLine ∧ Q ((s.length : Int) != 0)) := Eq.trans rfl rfl
@[simp] theorem tru_tup {xs : List D} {Q : Bool → Prop} : tru (.tup xs) Q = Q (!xs.isEmpty) := Eq.trans rfl rfl
@[simp] theorem tru_lst {xs : List D} {Q : Bool → Prop} : tru (.lst xs) Q = Q (!xs.isEmpty) := Eq.trans rfl rfl
@[simp] theorem tru_dct {xs : List (Key × D)} {Q : Bool → Prop} : tru (.dct xs) Q = Q (!xs.isEmpty) := Eq.trans rfl rfl
@[simp] theorem asI_int {i : Int} {Q : Int → Prop} : asI (.int i) Q = Q i := Eq.trans rfl rfl
@[simp] theorem asL_lst {xs : List D} {Q : List D → Prop} : asL (.lst xs) Q = Q xs := Eq.trans rfl rfl
@[simp] theorem asT_tup {xs : List D} {Q : List D → Prop} : asT (.tup xs) Q = Q xs := Eq.trans rfl rfl
@[simp] theorem datOf_dat {d : D} {Q : DK} : datOf (some (.dat d)) Q = Q d := Eq.trans rfl rfl
@[simp] theorem dCmp_ii {p : Int → Int → Bool} {i j : Int} {Q : DK} : dCmp p (.int i) (.int j) Q = Q (.bl (p i j)) := Eq.trans rfl rfl
@[simp] theorem dAdd_ii {i j : Int} {Q : DK} : dAdd (.int i) (.int j) Q = Q (.int (i + j)) := Eq.trans rfl rfl
@[simp] theorem dAdd_ss {a b : Str} {Q : DK} : dAdd (.str a) (.str b) Q = (a.length + b.length ≤ sizeLine ∧ Q (.str (a ++ b))) := Eq.trans rfl rfl
@[simp] theorem dAdd_ll {a b : List D} {Q : DK} : dAdd (.lst a) (.lst b) Q = (a.length + b.length ≤ sizeLine ∧ Q (.lst (a ++ b))) := Eq.trans rfl rfl
@[simp] theorem dAdd_tt {a b : List D} {Q : DK} : dAdd (.tup a) (.tup b) Q = (a.length + b.length ≤ sizeLine ∧ Q (.tup (a ++ b))) := Eq.trans rfl rfl
@[simp] theorem dSub_ii {i j : Int} {Q : DK} : dSub (.int i) (.int j) Q = Q (.int (i - j)) := Eq.trans rfl rfl
@[simp] theorem dMul_ii {i j : Int} {Q : DK} : dMul (.int i) (.int j) Q = (CMulW i j ∧ Q (.int (i * j))) := Eq.trans rfl rfl
@[simp] theorem dMul_li {a : List D} {k : Int} {Q : DK} : dMul (.lst a) (.int k) Q = ((-(2 ^ 63) ≤ k ∧ k < 2 ^ 63 ∧ a.length * k.toNat ≤ sizeLine) ∧ Q (.lst (List.replicate k.toNat a).flatten)) := Eq.trans rfl rfl
@[simp] theorem dMod_ii {i j : Int} {Q : DK} : dMod (.int i) (.int j) Q = (0 < j ∧ Q (.int (i % j))) := Eq.trans rfl rfl
@[simp] theorem dDiv_ii {i j : Int} {Q : DK} : dDiv (.int i) (.int j) Q = (CDivW i j ∧ Q (.int (i / j))) := Eq.trans rfl rfl
@[simp] theorem dPow_ii {i j : Int} {Q : DK} : dPow (.int i) (.int j) Q = (CPowW i j ∧ Q (.int (i ^ j.toNat))) := Eq.trans rfl rfl
@[simp] theorem dNeg_i {i : Int} {Q : DK} : dNeg (.int i) Q = Q (.int (-i)) := Eq.trans rfl rfl
@[simp] theorem dIs_n {x : D} {Q : DK} : dIs x .non Q = Q (.bl x.isN) := by cases x <;> rfl
@[simp] theorem dIsNot_n {x : D} {Q : DK} : dIsNot x .non Q = Q (.bl (!x.isN)) := by cases x <;> rfl
@[simp] theorem dIn_l {neg : Bool} {x : D} {xs : List D} {Q : DK} : dInN neg x (.lst xs) Q = (x.flat = true ∧ xs.all D.flat = true ∧ Q (.bl (if neg then !D.isIn x xs else D.isIn x xs))) := by cases x <;> rfl
@[simp] theorem dIn_t {neg : Bool} {x : D} {xs : List D} {Q : DK} : dInN neg x (.tup xs) Q = (x.flat = true ∧ xs.all D.flat = true ∧ Q (.bl (if neg then !D.isIn x xs else D.isIn x xs))) := by cases x <;> rfl
@[simp] theorem dLen_l {xs : List D} {Q : DK} : dLen [.lst xs] Q = Q (.int xs.length) := Eq.trans rfl rfl
@[simp] theorem dLen_t {xs : List D} {Q : DK} : dLen [.tup xs] Q = Q (.int xs.length) := Eq.trans rfl rfl
@[simp] theorem dLen_s {s : Str} {Q : DK} : dLen [.str s] Q = (s.length ≤ sizeLine ∧ Q (.int s.length)) := Eq.trans rfl rfl
@[simp] theorem dAbs_i {i : Int} {Q : DK} : dAbs [.int i] Q = Q (.int (if i < 0 then -i else i)) := Eq.trans rfl rfl
@[simp] theorem dInt_i {i : Int} {Q : DK} : dInt [.int i] Q = Q (.int i) := Eq.trans rfl rfl
@[simp] theorem dInt_b {k : Bool} {Q : DK} : dInt [.bl k] Q = Q (.int (if k then 1 else 0)) := Eq.trans rfl rfl
@[simp] theorem dMax2_ii {i j : Int} {Q : DK} : dMax2 [.int i, .int j] Q = Q (.int (if j > i then j else i)) := Eq.trans rfl rfl
@[simp] theorem dMin2_ii {i j : Int} {Q : DK} : dMin2 [.int i, .int j] Q = Q (.int (if j < i then j else i)) := Eq.trans rfl rfl
@[simp] theorem dList_l {xs : List D} {Q : DK} : dList [.lst xs] Q = Q (.lst xs) := Eq.trans rfl rfl
@[simp] theorem dList_t {xs : List D} {Q : DK} : dList [.tup xs] Q = Q (.lst xs) := Eq.trans rfl rfl
@[simp] theorem dSl_l {xs : List D} {lo hi : Option Int} {Q : DK} : dSl (.lst xs) lo hi Q = Q (.lst (cutD xs lo hi)) := Eq.trans rfl rfl
@[simp] theorem dSl_t {xs : List D} {lo hi : Option Int} {Q : DK} : dSl (.tup xs) lo hi Q = Q (.tup (cutD xs lo hi)) := Eq.trans rfl rfl
@[simp] theorem dSl_s {z : Str} {lo hi : Option Int} {Q : DK} : dSl (.str z) lo hi Q = (z.length ≤ sizeLine ∧ Q (.str (cutS z lo hi))) := Eq.trans rfl rfl
@[simp] theorem isN_non : D.isN (D.non) = true := Eq.trans rfl rfl
@[simp] theorem flat_non : D.flat (D.non) = true := Eq.trans rfl rfl
@[simp] theorem tyS_non : D.tyS (D.non) = some "NoneType" := Eq.trans rfl rfl
@[simp] theorem pure_non : D.pure (D.non) = true := Eq.trans rfl rfl
@[simp] theorem isN_bl {b : Bool} : D.isN (D.bl b) = false := Eq.trans rfl rfl
@[simp] theorem flat_bl {b : Bool} : D.flat (D.bl b) = true := Eq.trans rfl rfl
@[simp] theorem tyS_bl {b : Bool} : D.tyS (D.bl b) = some "bool" := Eq.trans rfl rfl
@[simp] theorem pure_bl {b : Bool} : D.pure (D.bl b) = true := Eq.trans rfl rfl
@[simp] theorem isN_int {i : Int} : D.isN (D.int i) = false := Eq.trans rfl rfl
@[simp] theorem flat_int {i : Int} : D.flat (D.int i) = true := Eq.trans rfl rfl
@[simp] theorem tyS_int {i : Int} : D.tyS (D.int i) = some "int" := Eq.trans rfl rfl
@[simp] theorem pure_int {i : Int} : D.pure (D.int i) = true := Eq.trans rfl rfl
@[simp] theorem isN_str {s : Str} : D.isN (D.str s) = false := Eq.trans rfl rfl
@[simp] theorem flat_str {s : Str} : D.flat (D.str s) = true := Eq.trans rfl rfl
@[simp] theorem tyS_str {s : Str} : D.tyS (D.str s) = some "str" := Eq.trans rfl rfl
@[simp] theorem pure_str {s : Str} : D.pure (D.str s) = true := Eq.trans rfl rfl
@[simp] theorem isN_tup {xs : List D} : D.isN (D.tup xs) = false := Eq.trans rfl rfl
@[simp] theorem flat_tup {xs : List D} : D.flat (D.tup xs) = false := Eq.trans rfl rfl
@[simp] theorem tyS_tup {xs : List D} : D.tyS (D.tup xs) = some "tuple" := Eq.trans rfl rfl
@[simp] theorem pure_tup {xs : List D} : D.pure (D.tup xs) = pures xs := Eq.trans rfl rfl
@[simp] theorem isN_lst {xs : List D} : D.isN (D.lst xs) = false := Eq.trans rfl rfl
@[simp] theorem flat_lst {xs : List D} : D.flat (D.lst xs) = false := Eq.trans rfl rfl
@[simp] theorem tyS_lst {xs : List D} : D.tyS (D.lst xs) = some "list" := Eq.trans rfl rfl
@[simp] theorem pure_lst {xs : List D} : D.pure (D.lst xs) = pures xs := Eq.trans rfl rfl
@[simp] theorem isN_dct {kv : List (Key × D)} : D.isN (D.dct kv) = false := Eq.trans rfl rfl
@[simp] theorem flat_dct {kv : List (Key × D)} : D.flat (D.dct kv) = false := Eq.trans rfl rfl
@[simp] theorem tyS_dct {kv : List (Key × D)} : D.tyS (D.dct kv) = some "dict" := Eq.trans rfl rfl
@[simp] theorem pure_dct {kv : List (Key × D)} : D.pure (D.dct kv) = false := Eq.trans rfl rfl
@[simp] theorem isN_exc {e : Str} {fs : List (Str × D)} : D.isN (D.exc e fs) = false := Eq.trans rfl rfl
@[simp] theorem flat_exc {e : Str} {fs : List (Str × D)} : D.flat (D.exc e fs) = false := Eq.trans rfl rfl
@[simp] theorem tyS_exc {e : Str} {fs : List (Str × D)} : D.tyS (D.exc e fs) = none := Eq.trans rfl rfl
@[simp] theorem pure_exc {e : Str} {fs : List (Str × D)} : D.pure (D.exc e fs) = false := Eq.trans rfl rfl
@[simp] theorem isN_src : D.isN (D.src) = false := Eq.trans rfl rfl
@[simp] theorem flat_src : D.flat (D.src) = false := Eq.trans rfl rfl
@[simp] theorem tyS_src : D.tyS (D.src) = none := Eq.trans rfl rfl
@[simp] theorem pure_src : D.pure (D.src) = false := Eq.trans rfl rfl
@[simp] theorem py_non : D.py (D.non) = PyData.none := Eq.trans rfl rfl
@[simp] theorem py_bl {b : Bool} : D.py (D.bl b) = PyData.bool b := Eq.trans rfl rfl
@[simp] theorem py_int {i : Int} : D.py (D.int i) = PyData.int i := Eq.trans rfl rfl
@[simp] theorem py_str {s : Str} : D.py (D.str s) = PyData.str s := Eq.trans rfl rfl
@[simp] theorem py_tup {xs : List D} : D.py (D.tup xs) = PyData.tuple (pys xs) := Eq.trans rfl rfl
@[simp] theorem py_lst {xs : List D} : D.py (D.lst xs) = PyData.list (pys xs) := Eq.trans rfl rfl
@[simp] theorem isiO_some {T a : String} : isiO T (some a) = (a == T || (a == "bool" && T == "int")) := Eq.trans rfl rfl
@[simp] theorem pys_nil : pys [] = [] := Eq.trans rfl rfl
@[simp] theorem pys_cons {x : D} {r : List D} : pys (x :: r) = x.py :: pys r := Eq.trans rfl rfl
@[simp] theorem pures_nil : pures [] = true := Eq.trans rfl rfl
@[simp] theorem pures_cons {x : D} {r : List D} : pures (x :: r) = (x.pure && pures r) := Eq.trans rfl rfl
@[simp] theorem eqF_non_non : D.eqF (D.non) (D.non) = true := Eq.trans rfl rfl
@[simp] theorem eqF_non_bl {y : Bool} : D.eqF (D.non) (D.bl y) = false := Eq.trans rfl rfl
@[simp] theorem eqF_non_int {y : Int} : D.eqF (D.non) (D.int y) = false := Eq.trans rfl rfl
@[simp] theorem eqF_non_str {y : Str} : D.eqF (D.non) (D.str y) = false := Eq.trans rfl rfl
@[simp] theorem eqF_bl_non {x : Bool} : D.eqF (D.bl x) (D.non) = false := Eq.trans rfl rfl
@[simp] theorem eqF_bl_bl {x : Bool} {y : Bool} : D.eqF (D.bl x) (D.bl y) = (x == y) := Eq.trans rfl rfl
@[simp] theorem eqF_bl_int {x : Bool} {y : Int} : D.eqF (D.bl x) (D.int y) = ((if x then 1 else 0) == y) := Eq.trans rfl rfl
@[simp] theorem eqF_bl_str {x : Bool} {y : Str} : D.eqF (D.bl x) (D.str y) = false := Eq.trans rfl rfl
@[simp] theorem eqF_int_non {x : Int} : D.eqF (D.int x) (D.non) = false := Eq.trans rfl rfl
@[simp] theorem eqF_int_bl {x : Int} {y : Bool} : D.eqF (D.int x) (D.bl y) = (x == (if y then 1 else 0)) := Eq.trans rfl rfl
@[simp] theorem eqF_int_int {x : Int} {y : Int} : D.eqF (D.int x) (D.int y) = (x == y) := Eq.trans rfl rfl
@[simp] theorem eqF_int_str {x : Int} {y : Str} : D.eqF (D.int x) (D.str y) = false := Eq.trans rfl rfl
@[simp] theorem eqF_str_non {x : Str} : D.eqF (D.str x) (D.non) = false := Eq.trans rfl rfl
@[simp] theorem eqF_str_bl {x : Str} {y : Bool} : D.eqF (D.str x) (D.bl y) = false := Eq.trans rfl rfl
@[simp] theorem eqF_str_int {x : Str} {y : Int} : D.eqF (D.str x) (D.int y) = false := Eq.trans rfl rfl
@[simp] theorem eqF_str_str {x : Str} {y : Str} : D.eqF (D.str x) (D.str y) = (x == y) := Eq.trans rfl rfl
@[simp] theorem cdiv2 (i : Int) : CDivW i 2 = True := eq_true ⟨by decide, by decide⟩
@[simp] theorem cdiv10 (i : Int) : CDivW i 10 = True := eq_true ⟨by decide, by decide⟩
theorem cdiv {i j : Int} (h : 0 < j) (h2 : j < 2 ^ 8000) : CDivW i j := by
  refine ⟨h, Nat.lt_of_lt_of_le (small_log (b := 8000) ?_ (by decide)) (by decide)⟩
  have e : j = (j.natAbs : Int) := by omega
  rw [e] at h2
  exact_mod_cast h2
/-- below 2 ^ 4000 in size -/
def Sm (i : Int) : Prop := i.natAbs < 2 ^ 4000
theorem cmul {i j : Int} (h : Sm i) (h2 : Sm j) : CMulW i j := wide_mul (a := 4000) (b := 4000) h h2 (by decide) (by decide) (by decide)
theorem sm_lit {i : Int} (h : i.natAbs < 2 ^ 200) : Sm i := Nat.lt_trans h (Nat.pow_lt_pow_right (by decide) (by decide))
theorem pow4000 : (2 : Nat) ^ 300 < 2 ^ 4000 := Nat.pow_lt_pow_right (by decide) (by decide)
theorem sm_of {i : Int} (h1 : -(10 ^ 90) ≤ i) (h2 : i ≤ 10 ^ 90) : Sm i := by
  unfold Sm
  have : i.natAbs ≤ 10 ^ 90 := by omega
  exact Nat.lt_of_le_of_lt this (Nat.lt_trans (by decide) pow4000)
@[simp] theorem mDraw_eq {lim : Int} {Q : DK} {W : XKD} : m_draw [.src, .int lim] Q W = ((0 < lim ∧ lim < 2 ^ 200) ∧ ∀ r, 0 ≤ r → r < lim → Q (.int r)) := Eq.trans rfl rfl
@[simp] theorem sz_eq : sizeLine = 16777216 := sizeLine_eq
@[simp] theorem cpow10 {j : Int} : CPowW 10 j = (0 ≤ j ∧ 4 * j ≤ 134217728) := Eq.trans rfl rfl
@[simp] theorem eq_ii {i j : Int} {Q : DK} : dEq (.int i) (.int j) Q = Q (.bl (decide (i = j))) := Eq.trans rfl rfl
@[simp] theorem eq_ss {i j : Str} {Q : DK} : dEq (.str i) (.str j) Q = Q (.bl (decide (i = j))) := Eq.trans rfl rfl
@[simp] theorem eq_bb {i j : Bool} {Q : DK} : dEq (.bl i) (.bl j) Q = Q (.bl (decide (i = j))) := Eq.trans rfl rfl
@[simp] theorem ne_ii {i j : Int} {Q : DK} : dNe (.int i) (.int j) Q = Q (.bl (!decide (i = j))) := Eq.trans rfl rfl
@[simp] theorem ne_ss {i j : Str} {Q : DK} : dNe (.str i) (.str j) Q = Q (.bl (!decide (i = j))) := Eq.trans rfl rfl
@[simp] theorem ne_bb {i j : Bool} {Q : DK} : dNe (.bl i) (.bl j) Q = Q (.bl (!decide (i = j))) := Eq.trans rfl rfl
@[simp] theorem eq_ll {a b : List D} {Q : DK} : dEq (.lst a) (.lst b) Q = ((D.lst a).okE = true ∧ (D.lst b).okE = true ∧ Q (.bl ((D.lst a).eqv (.lst b)))) := Eq.trans rfl rfl
@[simp] theorem ne_ll {a b : List D} {Q : DK} : dNe (.lst a) (.lst b) Q = ((D.lst a).okE = true ∧ (D.lst b).okE = true ∧ Q (.bl (!(D.lst a).eqv (.lst b)))) := Eq.trans rfl rfl
@[simp] theorem eq_tt {a b : List D} {Q : DK} : dEq (.tup a) (.tup b) Q = ((D.tup a).okE = true ∧ (D.tup b).okE = true ∧ Q (.bl ((D.tup a).eqv (.tup b)))) := Eq.trans rfl rfl
@[simp] theorem ne_tt {a b : List D} {Q : DK} : dNe (.tup a) (.tup b) Q = ((D.tup a).okE = true ∧ (D.tup b).okE = true ∧ Q (.bl (!(D.tup a).eqv (.tup b)))) := Eq.trans rfl rfl
theorem lim_ok {lim : Int} (h : 0 < lim) (h2 : lim < 2 ^ 200) : 0 < lim ∧ lim < 2 ^ 8000 := by
  refine ⟨h, Int.lt_trans h2 ?_⟩
  have : (2 : Nat) ^ 200 < 2 ^ 8000 := Nat.pow_lt_pow_right (by decide) (by decide)
  exact_mod_cast this
theorem ix_lst {xs : List D} {n : Nat} {Q : DK} : dIx (.lst xs) (.int (OfNat.ofNat n)) Q = (∃ d, xs[n]? = some d ∧ Q d) := by
  apply propext
  show (∃ d, atI xs ((n : Nat) : Int) = some d ∧ Q d) ↔ _
  constructor
  · rintro ⟨d, h, q⟩
    obtain ⟨j, h1, h2, h3, _⟩ := atI_get h
    refine ⟨d, ?_, q⟩
    have : ixN xs.length (n : Int) = some j := by
      unfold atI at h
      cases e : ixN xs.length (n : Int) with
      | none => rw [e] at h; cases h
      | some k => rw [(ixN_seq e).1] at h1; rw [h1]
    unfold ixN at this
    rw [if_pos (by omega)] at this
    split at this
    · have e : n = j := by simpa using this
      rw [e]; exact h2
    · cases this
  · rintro ⟨d, h, q⟩
    exact ⟨d, atI_nat h, q⟩
theorem ix_tup {xs : List D} {n : Nat} {Q : DK} : dIx (.tup xs) (.int (OfNat.ofNat n)) Q = (∃ d, xs[n]? = some d ∧ Q d) := by
  have h := ix_lst (xs := xs) (n := n) (Q := Q)
  exact h
@[simp] theorem ixl0 {a : D} {r : List D} {Q : DK} : dIx (.lst (a :: r)) (.int 0) Q = Q a := by have := ix_lst (xs := a :: r) (n := 0) (Q := Q); simpa using this
@[simp] theorem ixl1 {a b : D} {r : List D} {Q : DK} : dIx (.lst (a :: b :: r)) (.int 1) Q = Q b := by have := ix_lst (xs := a :: b :: r) (n := 1) (Q := Q); simpa using this
@[simp] theorem ixl2 {a b c : D} {r : List D} {Q : DK} : dIx (.lst (a :: b :: c :: r)) (.int 2) Q = Q c := by have := ix_lst (xs := a :: b :: c :: r) (n := 2) (Q := Q); simpa using this
@[simp] theorem ixt0 {a : D} {r : List D} {Q : DK} : dIx (.tup (a :: r)) (.int 0) Q = Q a := ixl0
@[simp] theorem ixt1 {a b : D} {r : List D} {Q : DK} : dIx (.tup (a :: b :: r)) (.int 1) Q = Q b := ixl1
@[simp] theorem ixt2 {a b c : D} {r : List D} {Q : DK} : dIx (.tup (a :: b :: c :: r)) (.int 2) Q = Q c := ixl2
theorem ix_at {xs : List D} {i : Int} {Q : DK} (h0 : 0 ≤ i) (h1 : i < xs.length) (h : ∀ d ∈ xs, Q d) : dIx (.lst xs) (.int i) Q := by
  obtain ⟨n, rfl⟩ := Int.eq_ofNat_of_zero_le h0
  have hn : n < xs.length := by omega
  exact ⟨xs[n], atI_nat (List.getElem?_eq_getElem hn), h _ (List.getElem_mem hn)⟩
/-- loops -/
theorem forL {g : MG} {body : MS} {E : DEnds} {xs : List D} {ρ : Rho} (I : Nat → Rho → Prop) (h0 : I 0 ρ) (hd : ∀ ρ, I xs.length ρ → E.nx ρ)
    (hs : ∀ (i : Nat) x ρ (k : Rho → Prop), xs[i]? = some x → I i ρ → (∀ ρ', I (i + 1) ρ' → k ρ') → g x ρ fun ρ' => body ρ' { E with nx := k, ct := k, bk := E.nx }) : mForL g body xs ρ E := by
  have key : ∀ (n i : Nat) ρ, n + i = xs.length → I i ρ → mForL g body (xs.drop i) ρ E := by
    intro n
    induction n with
    | zero =>
      intro i ρ hi h
      rw [List.drop_of_length_le (by omega)]
      exact hd ρ (by rw [← hi, Nat.zero_add]; exact h)
    | succ n ih =>
      intro i ρ hi h
      have hl : i < xs.length := by omega
      have e : xs[i]? = some xs[i] := List.getElem?_eq_getElem hl
      rw [drop_get e]
      exact hs i _ ρ _ e h fun ρ' h' => ih (i + 1) ρ' (by omega) h'
  exact key xs.length 0 ρ (by omega) h0
theorem rng_get {lo : Int} {n i : Nat} {x : D} (h : (rngD lo n)[i]? = some x) : i < n ∧ x = .int (lo + (i : Nat)) := by
  unfold rngD at h
  rw [List.getElem?_map] at h
  by_cases hi : i < n
  · rw [List.getElem?_range hi] at h
    exact ⟨hi, (Option.some.inj h).symm⟩
  · rw [List.getElem?_eq_none (by rw [List.length_range]; omega)] at h
    cases h
theorem rng_len {lo : Int} {n : Nat} : (rngD lo n).length = n := by unfold rngD; rw [List.length_map, List.length_range]
theorem forR {g : MG} {body : MS} {E : DEnds} {lo : Int} {n : Nat} {ρ : Rho} (I : Nat → Rho → Prop) (h0 : I 0 ρ) (hd : ∀ ρ, I n ρ → E.nx ρ)
    (hs : ∀ (i : Nat) ρ (k : Rho → Prop), i < n → I i ρ → (∀ ρ', I (i + 1) ρ' → k ρ') → g (.int (lo + (i : Nat))) ρ fun ρ' => body ρ' { E with nx := k, ct := k, bk := E.nx }) : mForL g body (rngD lo n) ρ E := by
  refine forL I h0 (by rw [rng_len]; exact hd) fun i x ρ k hx hI hk => ?_
  obtain ⟨h1, rfl⟩ := rng_get hx
  exact hs i ρ k h1 hI hk
theorem lcI {g : MG} {t : MT} {e : ME} {ρ : Rho} {xs : List D} {Q : List D → Prop} (hz : xs.length ≤ sizeLine) (I : Nat → List D → Prop) (h0 : I 0 []) (hd : ∀ acc, I xs.length acc → Q acc) (hl : ∀ i acc, I i acc → acc.length ≤ i)
    (hs : ∀ (i : Nat) x acc (k : List D → Prop), xs[i]? = some x → I i acc → acc.length < sizeLine → (∀ acc', I (i + 1) acc' → k acc') →
      g x ρ fun ρ' => t ρ' (fun b => if b = true then e ρ' (fun y => acc.length < sizeLine ∧ k (acc ++ [y])) (fun _ => False) else k acc) (fun _ => False)) : mLcL g t e ρ xs [] Q := by
  have key : ∀ (n i : Nat) acc, n + i = xs.length → I i acc → mLcL g t e ρ (xs.drop i) acc Q := by
    intro n
    induction n with
    | zero =>
      intro i acc hi h
      rw [List.drop_of_length_le (by omega)]
      exact hd acc (by rw [← hi, Nat.zero_add]; exact h)
    | succ n ih =>
      intro i acc hi h
      have hl' : i < xs.length := by omega
      have e' : xs[i]? = some xs[i] := List.getElem?_eq_getElem hl'
      have := hl i acc h
      rw [drop_get e']
      exact hs i _ acc _ e' h (by omega) fun acc' h' => ih (i + 1) acc' (by omega) h'
  exact key xs.length 0 [] (by omega) h0
/-- each item gives one -/
theorem lcMap {g : MG} {e : ME} {ρ : Rho} {xs : List D} {Q : List D → Prop} (F : D → D) (hz : xs.length ≤ sizeLine) (hd : Q (xs.map F)) (hs : ∀ x ∈ xs, ∀ k : DK, k (F x) → g x ρ fun ρ' => e ρ' k (fun _ => False)) : mLcL g mYes e ρ xs [] Q := by
  refine lcI hz (fun i acc => acc = (xs.take i).map F) rfl (fun acc h => ?_) (fun i acc h => ?_) (fun i x acc k hx h hl hk => ?_)
  · rw [h, List.take_length]; exact hd
  · rw [h, List.length_map, List.length_take]; omega
  · have hm : x ∈ xs := List.mem_of_getElem? hx
    show g x ρ fun ρ' => (if true = true then e ρ' (fun y => acc.length < sizeLine ∧ k (acc ++ [y])) (fun _ => False) else k acc)
    refine hs x hm _ ⟨hl, hk _ ?_⟩
    rw [h, List.take_add_one, hx, List.map_append]; rfl
end Hm
set_option Elab.async false
set_option linter.all false
set_option maxRecDepth 100000
set_option maxHeartbeats 2000000
namespace Hm
open PySem L2 PySem.Spec PyProof.Rows

/-! ### try: a caught error that is kept -/
theorem trk_ok {P : Program} {w : World} {H : Hp} {h : Heap} {a : Addr} {cls : Value} {d : Option Addr} {oe : Obj} {vs : Array Value} (e : h.get? a = some oe) (z : Zc cls d oe) (q : oe.data = .fields vs) : ObjOk P w H h a (ExO cls a d) :=
  ⟨⟨oe, vs, e, z, q⟩, ⟨oe, e⟩, fun _ _ ⟨o, v, x, r⟩ k => ⟨o, v, k o x, r⟩⟩
section
variable {X : Cx} {pins : List (Addr × Obj)} {σ : L2.St} {H : Hp} {s : Shared}
theorem trk_hok {P : Program} {w : World} {h : Heap} {a : Addr} {o : HO} (x : HOk P w H h) (hn : H a = none) (new : ObjOk P w (upd H a o) h a o) : HOk P w (upd H a o) h := by
  intro b u e
  by_cases hb : b = a
  · subst hb; rw [upd_same] at e; cases e; exact new
  · rw [upd_ne hb] at e
    exact (x b u e).stay (fun _ _ _ q => q) (fun c q => (upd_ne (ne_of_none q hn)).trans q) fun c xs q => (upd_ne (ne_of_none q hn)).trans q
/-- an object that nobody knew of at the entry is taken into the abstract heap -/
theorem Inv_track {a : Addr} {o : HO} {ob : Obj} (I : Inv X pins σ H s) (hn : H a = none) (e : s.heap.get? a = some ob) (nc : ∀ v, ob.data ≠ .cell v) (nL : a ≠ X.env.locals) (n0 : X.s_0.heap.get? a = none) (np : ∀ p ∈ X.pn ++ pins, p.1 ≠ a)
    (new : ObjOk X.prog X.w (upd H a o) s.heap a o) : Inv X pins σ (upd H a o) s where
  ok := I.ok
  os := I.os
  bare := I.bare
  base := { keep := I.base.keep, slot := I.base.slot, there := I.base.there,
            free := fun b u q n nx => (upd_ne fun z => by rw [z, n0] at q; cases q).trans (I.base.free b u q n nx),
            tups := fun b xs q => (upd_ne (ne_of_none (I.base.tups b xs q) hn)).trans (I.base.tups b xs q),
            frzs := fun b u xs q => (upd_ne (ne_of_none (I.base.frzs b u xs q) hn)).trans (I.base.frzs b u xs q),
            tbls := fun b ps q => by obtain ⟨m, z⟩ := I.base.tbls b ps q; exact ⟨m, (upd_ne (ne_of_none z hn)).trans z⟩ }
  loc := I.loc
  cell := I.cell
  free := (upd_ne (Ne.symm nL)).trans I.free
  freeC := fun x c q => (upd_ne fun z => by
    obtain ⟨v, o', h1, h2⟩ := I.cell x c q
    rw [z, e] at h1; cases h1
    exact nc v h2).trans (I.freeC x c q)
  pin := fun p hp => by
    obtain ⟨h1, h2, h3⟩ := I.pin p hp
    exact ⟨h1, (upd_ne (np p hp)).trans h2, h3⟩
  hok := trk_hok I.hok hn new
  len := I.len
end
/-- what 'except x as n: suite' asks of an error of the body: it is held behind the suite -/
def wKeep (K : PySem.W.Frag) (c : Value) (i : Nat) (ts : Addr → Value → Option Addr → TS) (Wout : WX) (De : Ends) : WX := fun cls d σ H =>
  ∃ b, PySem.W.exmOne K cls c = some b ∧ (b = true → ∀ a, H a = none → i < σ.length → ts a cls d { nx := fun σ' H' => De.nx (σ'.set i none) (upd H' a (ExO cls a d)), rt := fun _ _ => False, bk := fun _ _ => False, ct := fun _ _ => False } (σ.set i (some (.ref a))) H) ∧
    (b = false → Wout cls d σ H)
section
variable {X : Cx} {x n : Str} {c : Value} {i : Nat} {body suite : List Stmt} {b0 : Stmt} {np pos pos' : Pos} {tb : WX → TS} {ts : Addr → Value → Option Addr → TS} {Wout : WX}
theorem ps_try_keep (hex : X.ex = []) (hst : X.stack = X.env :: X.outer) (hfm : X.env.frame = some X.env.locals) (hND : X.N.Nodup) (hi : X.N[i]? = some n) (hln : X.env.kindOf n = some .local) (hcn : Names X x c) (tk : Takes X Wout)
    (hb : ∀ (W : WX) (pn : List (Addr × Obj)) (xe : Value → Shared → Prop), Takes (X.tr pn xe) W → PassesOwn (model X.prog X.w) X.A X.env xe → PSs (X.tr pn xe) body (tb W))
    (hsu : ∀ (a : Addr) (oe : Obj) (cls : Value) (d : Option Addr) (pn : List (Addr × Obj)), PSs (X.suite a ((a, oe) :: pn)) (b0 :: suite) (ts a cls d)) :
    PS X (.Try body [.ExceptHandler (some (.Name x np)) (some n) (b0 :: suite) pos'] [] [] pos) (fun De σ H => tb (wKeep X.K c i ts Wout De) De σ H) := by
  refine ⟨fun pins s σ H De I h => wpAny_Try_except ?_⟩
  have ok := I.ok
  have hfrs : X.A.frames = some (X.env :: X.outer) := ok.frames.trans (congrArg some hst)
  refine wpAny_mono ((hb (wKeep X.K c i ts Wout De) (X.pn ++ pins) _ (fun u s' xx => ?_) PassesOwn.looking).run [] s σ H De (I.toTry _) h) (fun f s1 hsp => ?_) (fun e s1 he => he)
  · obtain ⟨a, G, sI, pins', σ1, H1, cls, d, rfl, J', nb, up, sky, na, os, ag, b, hb1, hyes, hno⟩ := xx
    have J : Inv X pins σ1 H1 sI := J'.ofTry ok
    have sky2 : Sky G (X.env :: X.outer) a (Zc cls d) X.env.locals s'.heap := hst ▸ sky
    refine Sky.land Zc.steady hfrs hfm sky2 fun h3 fl3 up3 => ?_
    have J3 : Inv X pins σ1 H1 { s' with heap := h3 } := J.landed nb fl3.1 (up.trans up3) os ag
    obtain ⟨o3, v3, he3, hz3, hd3⟩ := fl3.there
    have nfr : a ∉ frs (X.env :: X.outer) := fun hm => by
      obtain ⟨_, o', e', hnf⟩ := fl3.2.2.1.mem hm
      rw [he3] at e'; cases e'
      exact hnf _ hd3
    have nL : a ≠ X.env.locals := fun z => nfr (List.mem_filterMap.mpr ⟨X.env, List.mem_cons_self, hfm.trans (congrArg some z.symm)⟩)
    have nF : a ∉ X.fs := fun hm => by
      obtain ⟨e, he, q⟩ := List.mem_filterMap.mp hm
      exact nfr (List.mem_filterMap.mpr ⟨e, List.mem_cons_of_mem _ he, q⟩)
    have nG : G.get? a = none := fl3.2.1
    have nI : sI.heap.get? a = none := by
      cases q : sI.heap.get? a with
      | none => rfl
      | some o =>
        have z := nb a o q (by rw [hst]; exact nfr)
        rw [nG] at z; cases z
    have n0 : X.ex = [] → X.s_0.heap.get? a = none := fun hx => by
      cases q : X.s_0.heap.get? a with
      | none => rfl
      | some o =>
        obtain ⟨o', z⟩ := J.base.there a o q (by rw [hx]; exact fun z => nomatch z)
        rw [nI] at z; cases z
    have np' : ∀ p ∈ X.pn ++ pins, p.1 ≠ a := fun p hp z => by
      have q := (J.pin p hp).1
      rw [z, nI] at q; cases q
    have S3 := J3.suite he3 hd3 na nL nF
    refine wpAny_handleBy_cons (codeAny_handlers_test ?_) (by intro q; cases q)
    have LT : PySem.W.Looks (model X.prog X.w) h3 (typeOf (.ref a)) cls := fun A Q E s k q => wpAny_typeOf_ref (k _ _ he3) (hz3.1.symm ▸ q)
    have LM := PySem.W.exm_one (M := model X.prog X.w) (J3.kIn) LT hb1
    have asks : ∀ {Q : Value → Shared → Prop} {E : Value → Shared → Prop}, Q c { s' with heap := h3 } → wpAny (model X.prog X.w) (X.A.mark (some (.ref a))) (eval (.Name x np) X.env) Q E { s' with heap := h3 } := fun {Q E} q => by
      obtain ⟨hg, hdbg, hm | ⟨hm, hv, hnn⟩⟩ := hcn
      · exact ld_glob (X := X.suite a ((a, o3) :: (X.pn ++ pins))) S3 hg hm q hdbg
      · exact ld_blt (X := X.suite a ((a, o3) :: (X.pn ++ pins))) S3 hg hm hv q hnn hdbg
    refine asks (LM.here ?_)
    cases b with
    | true =>
      refine codeAny_handlers_suite_as (HandSPX.lands_againZ fl3 fun h4 fl4 up4 => ?_)
      have J4 : Inv X pins σ1 H1 { s' with heap := h4 } := J.landed nb fl4.1 ((up.trans up3).trans up4) os ag
      obtain ⟨o4, v4, he4, hz4, hd4⟩ := fl4.there
      have S4 := J4.suite he4 hd4 na nL nF
      refine store_ok (X := X.suite a ((a, o4) :: (X.pn ++ pins))) (v := .ref a) S4 hND hi (.inl hln) rfl (fun s5 S5 => ?_) (.inr hln)
      refine wpAny_mono ((hsu a o4 cls d (X.pn ++ pins)).run [] s5 _ H1 _ S5 (hyes rfl a na (by rw [J.len]; exact (List.getElem?_eq_some_iff.mp hi).1))) (fun f s6 hsp => ?_) (fun _ _ z => False.elim z)
      cases f with
      | next =>
        obtain ⟨σ6, H6, S6, q6⟩ := hsp
        refine gone_ok (X := X.suite a ((a, o4) :: (X.pn ++ pins))) (pins := []) S6 hND hi hln fun s7 S7 => ?_
        obtain ⟨p1, p2, _⟩ := S7.pin (a, o4) (List.mem_append_left _ List.mem_cons_self)
        have J7 : Inv X pins (σ6.set i none) H6 s7 := S7.unsuite ok
        exact ⟨σ6.set i none, upd H6 a (ExO cls a d), Inv_track J7 p2 p1 (fun v z => by rw [hd4] at z; cases z) nL (n0 hex) np' (trk_ok p1 hz4 hd4), q6⟩
      | brk => obtain ⟨_, _, _, z⟩ := hsp; exact z.elim
      | cont => obtain ⟨_, _, _, z⟩ := hsp; exact z.elim
      | ret u => obtain ⟨_, _, _, _, _, z⟩ := hsp; exact z.elim
    | false =>
      refine wpAny_handleBy_nil ?_
      obtain ⟨k1, k2, k3, oe, vs, T, oT, ts', he, hz, hd, h1, hr⟩ := id fl3
      unfold PySem.passOn
      refine wpAny_bind (wpAny_field he hd h1 ?_)
      rw [if_neg (by simp)]
      have fin : wpAny (model X.prog X.w) X.A (setFlight (.ref a) X.env.frame) (fun _ s4 => wpAny (model X.prog X.w) X.A (throw (.ref a) : Sem Flow) (SP X pins De) X.xe s4) X.xe { s' with heap := h3 } := by
        rw [hfm]
        exact HandSPX.setFlight_upZ fl3 fun h4 hh4 up4 => wpAny_throw (tk _ _ ⟨a, G, sI, pins, σ1, H1, cls, d, rfl, J, nb, (up.trans up3).trans up4, .inr (.inr (by rw [hst]; exact hh4)), na, os, ag, hno rfl⟩)
      first
        | exact wpAny_bind (wpAny_pure (wpAny_bind fin))
        | exact wpAny_bind fin
  · cases f with
    | next => obtain ⟨σ2, H2, J2, q⟩ := hsp; exact wpAny_execs_nil ⟨σ2, H2, J2.ofTry ok, q⟩
    | brk => obtain ⟨σ2, H2, J2, q⟩ := hsp; exact ⟨σ2, H2, J2.ofTry ok, q⟩
    | cont => obtain ⟨σ2, H2, J2, q⟩ := hsp; exact ⟨σ2, H2, J2.ofTry ok, q⟩
    | ret u => obtain ⟨v, σ2, H2, J2, r, q⟩ := hsp; exact ⟨v, σ2, H2, J2.ofTry ok, r, q⟩
end
end Hm
set_option Elab.async false
set_option linter.all false
set_option maxRecDepth 100000
set_option maxHeartbeats 2000000
namespace Hm
open PySem L2 PySem.Spec PyProof.Rows

/-! ### try: .. except x as n: m = n, where x takes each error of ours -/
def mTry (i j : Nat) (b : MS) : MS := fun ρ E => b ρ { E with ex := fun ρ' x => E.nx (((ρ'.set i .un).set j (.dat (.exc x.c x.fs))).set i .un) }
@[simp] theorem mTry_eq (i j : Nat) (b : MS) (ρ : Rho) (E : DEnds) : mTry i j b ρ E = b ρ { E with ex := fun ρ' x => E.nx (((ρ'.set i .un).set j (.dat (.exc x.c x.fs))).set i .un) } := Eq.trans rfl rfl
section
variable {f : FrC} {X : Cx} {W : WX} {ca cb cc : Nat} {a b c : Expr} {es : List Expr} {ma mb mc : ME} {mas : MA} {pos : Pos} {ms : MS}
theorem Rel.setUn {B : Addr → Prop} {σ : L2.St} {H : Hp} {ρ : Rho} {n i : Nat} {o : Option V} (R : Rel f B σ H ρ n) : Rel f B (σ.set i o) H (ρ.set i .un) n :=
  ⟨R.ok, by rw [List.length_set, List.length_set, R.len], fun j x o' h1 h2 => by
    rcases set_cases h1 with ⟨e1, e2, _⟩ | ⟨e1, h1⟩
    · subst e2; trivial
    · rcases set_cases h2 with ⟨e3, _⟩ | ⟨_, h2⟩
      · exact absurd e3 e1
      · exact R.sl j x o' h1 h2, fun a b p x y ne h1 o1 h2 o2 s1 => by
    rcases set_cases h1 with ⟨e1, e2, _⟩ | ⟨e1, h1⟩
    · subst e2; cases o1
    · rcases set_cases h2 with ⟨e3, e4, _⟩ | ⟨e3, h2⟩
      · subst e4; cases o2
      · rw [List.getElem?_set_ne e1] at s1
        rw [List.getElem?_set_ne e3]
        exact R.inj a b p x y ne h1 o1 h2 o2 s1⟩
theorem cs_try {i j : Nat} {x n m : Str} {CH : Addr} {np p1 p2 p3 pos' : Pos} {body : List Stmt} {ct : Str → Option Addr} {K : PySem.W.Frag} (hK : f.g.K = X.K) (hct : f.g.ct = ct) (hKK : X.K = K)
    (hall : ∀ c C, ct c = some C → PySem.W.exmOne K (.ref C) (.ref CH) = some true)
    (hex : X.ex = []) (hst : X.stack = X.env :: X.outer) (hfm : X.env.frame = some X.env.locals) (hND : X.N.Nodup) (hi : X.N[i]? = some n) (hj : X.N[j]? = some m) (hln : X.env.kindOf n = some .local) (hlm : X.env.kindOf m = some .local) (hg : Gl X x) (gH : X.mg x = some (.ref CH)) (tk : Takes X W)
    (hb : ∀ (W : WX) (pn : List (Addr × Obj)) (xe : Value → Shared → Prop), Takes (X.tr pn xe) W → PassesOwn (model X.prog X.w) X.A X.env xe → CB f (X.tr pn xe) W ca body ms)
    (hij : i ≠ j := by decide) (hd1 : (n == ("__debug__" : Str)) = false := by decide) (hd2 : (n == ("__classdict__" : Str)) = false := by decide) (hdb : (x == ("__debug__" : Str)) = false := by decide)
    (hs : swapsWithSole [.Name m p1] (.Name n p2) p3.line X.env = pure false := by rfl) (hw : swappedStores [.Name m p1] (.Name n p2) X.env = pure none := by rfl) :
    CS f X W ca (.Try body [.ExceptHandler (some (.Name x np)) (some n) [.Assign [.Name m p1] (.Name n p2) p3] pos'] [] [] pos) (mTry i j ms) := by
  refine PS.imp (ps_try_keep (i := i) (ts := fun _ _ _ => tAsg (tVar i) (gName j)) hex hst hfm hND hi hln ⟨hg, hdb, .inl gH⟩ tk (tb := fun W => RS f W ca ms) hb (fun a oe cls d pn => pss_one (ps_asg (pe_var hi (.inl hln) hd1 hd2) (pg_name (i := j) hND hj (.inl hlm) (.inr hlm)) hs hw rfl))) fun De σ H h => ?_
  obtain ⟨B, n, ρ, E, R, hm, hn, hr, hbk, hcn, hx⟩ := h
  refine ⟨B, n, ρ, _, R, hm, hn, hr, hbk, hcn, fun B' y cls dd σ' H' ρ' q R' er => ?_⟩
  obtain ⟨C, e1, e2, e3⟩ := er
  subst e2
  refine ⟨true, by rw [hKK]; exact hall _ _ (hct ▸ e1), fun _ a na hlen => ?_, fun z => nomatch z⟩
  refine ⟨.ref a, by rw [List.getElem?_set_self hlen], ?_⟩
  have nB : ¬ B' a := fun z => R'.ok.dom a z na
  have gw : Gw H' (upd H' a (ExO (.ref C) a dd)) := Gw.new na
  refine hn B' _ _ _ q ((Rel.set (d := .exc y.c y.fs) (Rel.setUn (i := i) (o := some (.ref a)) (R'.kp gw.kp (gw.src R'.ok.src))) ?_).setUn)
  rcases e3 with ⟨rfl, e4⟩ | ⟨d, kvs, rfl, e4, e5, e6, e7⟩
  · rw [e4]; exact .exc0 e1 upd_same nB
  · exact .exc1 e1 upd_same nB (gw _ _ e4) e5 (e6.move fun b o h nb => ⟨gw _ _ h, nb⟩) e7

/-! ### isinstance of a kept error -/
def dIsx (s : Str → Bool) : D → DK → Prop
  | .exc c [], Q => Q (.bl (s c))
  | _, _ => False
@[simp] theorem dIsx_eq {s : Str → Bool} {c : Str} {Q : DK} : dIsx s (.exc c []) Q = Q (.bl (s c)) := Eq.trans rfl rfl
/-- isinstance(e, c), e an error that is held -/
def rIsx (K : PySem.W.Frag) (cv : Value) : List V → Hp → VK → Prop := fun xs H Q => ∃ (a C : Addr) (c : V) (b : Bool), xs = [.ref a, c] ∧ H a = some (ExO (.ref C) a none) ∧ ExcC K C ∧ (∀ u, RelV c u → u = cv) ∧ PySem.W.kitOne K (.ref C) cv = some b ∧ Q (.bl b) H
theorem call_isx {cv : Value} : CallR X (.builtin "isinstance") (rIsx X.K cv) := by
  intro pins s σ H xs us Q I r h
  obtain ⟨a, C, c, b, rfl, ha, hC, hcv, e, q⟩ := h
  cases r with
  | cons rx rr =>
    cases rr with
    | cons rt rr =>
      cases rr
      cases rx
      have ec := hcv _ rt
      subst ec
      obtain ⟨⟨oe, vs, hget, hz, hv⟩, _⟩ := I.hok a _ ha
      have J : PySem.W.InstAt s.heap a oe C none := by
        obtain ⟨oc, od, oda, osl⟩ := oe
        obtain ⟨h1, h2⟩ := hz
        dsimp only at h1 h2 hv
        subst h1 h2 hv
        exact ⟨hget, rfl, rfl, trivial⟩
      exact PySem.W.kia_one (PySem.W.handS_kitx_exc hC.hg hC.hk hC.hs hC.hd hC.ha hC.hn hC.ht hC.hm) I.kIn J e (fun z => nomatch z) fun tk => ⟨.bl b, H, I.kept (t' := tk) fun _ _ z => z, rfl, q⟩
/-- isinstance(e, x), x a class of the program's -/
theorem ce_isx {x : Str} {cv : Value} {p p2 : Pos} {ct : Str → Option Addr} {K : PySem.W.Frag} {s : Str → Bool} (hct : f.g.ct = ct) (hKK : X.K = K) (hall : ∀ c C, ct c = some C → ExcC K C ∧ PySem.W.kitOne K (.ref C) cv = some (s c)) (hr : ∃ C, cv = .ref C)
    (hg : Gl X "isinstance") (hm : X.mg "isinstance" = none) (hg2 : Gl X x) (hm2 : X.mg x = some cv) (ha : CE f X W ca a ma)
    (hdb : (x == ("__debug__" : Str)) = false := by decide) (he : starEach [a, .Name x p2] X.env = (false, eval a X.env) :: starEach [.Name x p2] X.env := by rfl) (he2 : starEach [.Name x p2] X.env = (false, eval (.Name x p2) X.env) :: starEach [] X.env := by rfl)
    (hpl : (backTo pos (starEach [.Name x p2] X.env)).any (·.1) = false := by rfl) : CE f X W ca (.Call (.Name "isinstance" p) [a, .Name x p2] [] pos) (mUn (dIsx s) ma) := by
  obtain ⟨C0, rfl⟩ := hr
  refine PE.imp (pe_callB (call_isx (cv := .ref C0)) hg hm (by decide +kernel) (pa_cons ha (pa_cons (pe_glob hg2 hm2 (show RelV (.ref C0) (.ref C0) from rfl) hdb) pa_nil he2) he) (by decide) (by decide) he hpl) fun σ H Q h => ?_
  obtain ⟨B, n, ρ, Q0, W0, R, hm, hq, hw⟩ := h
  refine rd_i (m := n) R hm (fun y v H1 h1 e1 R1 r1 => ?_) hw
  cases r1 with
  | exc0 e1' h2 n2 =>
    obtain ⟨h3, h4⟩ := hall _ _ (hct ▸ e1')
    subst hKK
    exact ⟨_, _, _, _, rfl, h2, h3, (fun u r => r), h4, hq _ _ H1 h1 e1 R1.ok.src (.bl _)⟩
  | exc1 e1' h2 n2 h3 n3 r3 q3 =>
    cases r3 with
    | nil => exact absurd rfl q3
    | cons _ _ => exact h1.elim
  | _ => exact h1.elim
/-- isinstance(e, x), x a type of the language's -/
theorem ce_isxB {x : Str} {T : String} {p p2 : Pos} {ct : Str → Option Addr} {K : PySem.W.Frag} {s : Str → Bool} (hct : f.g.ct = ct) (hKK : X.K = K) (hall : ∀ c C, ct c = some C → ExcC K C ∧ PySem.W.kitOne K (.ref C) (.type T) = some (s c))
    (hg : Gl X "isinstance") (hm : X.mg "isinstance" = none) (hg2 : Gl X x) (hm2 : X.mg x = none) (hv2 : bootBuiltins x = some (.type T)) (ha : CE f X W ca a ma)
    (hn : x ≠ "__name__" := by decide) (hdb : (x == ("__debug__" : Str)) = false := by decide) (he : starEach [a, .Name x p2] X.env = (false, eval a X.env) :: starEach [.Name x p2] X.env := by rfl) (he2 : starEach [.Name x p2] X.env = (false, eval (.Name x p2) X.env) :: starEach [] X.env := by rfl)
    (hpl : (backTo pos (starEach [.Name x p2] X.env)).any (·.1) = false := by rfl) : CE f X W ca (.Call (.Name "isinstance" p) [a, .Name x p2] [] pos) (mUn (dIsx s) ma) := by
  refine PE.imp (pe_callB (call_isx (cv := .type T)) hg hm (by decide +kernel) (pa_cons ha (pa_cons (pe_bltn hg2 hm2 hv2 (show RelV (.ty T) (.type T) from rfl) hn hdb) pa_nil he2) he) (by decide) (by decide) he hpl) fun σ H Q h => ?_
  obtain ⟨B, n, ρ, Q0, W0, R, hm, hq, hw⟩ := h
  refine rd_i (m := n) R hm (fun y v H1 h1 e1 R1 r1 => ?_) hw
  cases r1 with
  | exc0 e1' h2 n2 =>
    obtain ⟨h3, h4⟩ := hall _ _ (hct ▸ e1')
    subst hKK
    exact ⟨_, _, _, _, rfl, h2, h3, (fun u r => r), h4, hq _ _ H1 h1 e1 R1.ok.src (.bl _)⟩
  | exc1 e1' h2 n2 h3 n3 r3 q3 =>
    cases r3 with
    | nil => exact absurd rfl q3
    | cons _ _ => exact h1.elim
  | _ => exact h1.elim
/-- the table of a class: which of the errors are its -/
theorem kit_own {K : PySem.W.Frag} {E C : Addr} {b : Bool} (hd : PySem.W.hasDictIn K C = true) (ht : PySem.W.typeIn K (.ref C) = some (.type "type")) (self : PySem.W.subIn K (.ref C) (.ref C) = some true) (h : PySem.W.subIn K (.ref E) (.ref C) = some b) : PySem.W.kitOne K (.ref E) (.ref C) = some b := by
  obtain ⟨cd, hc, _⟩ := PySem.W.any_some hd
  unfold PySem.W.kitOne
  by_cases e : ((Value.ref E) == (Value.ref C)) = true
  · rw [if_pos e]
    have e' : E = C := Value.ref.inj (beq_iff_eq.mp e)
    subst e'
    exact self.symm.trans h
  · rw [if_neg e]
    show (if ((PySem.W.clsIn K C).isSome && PySem.W.typeIn K (.ref C) == some (.type "type")) = true then PySem.W.subIn K (.ref E) (.ref C) else none) = some b
    rw [if_pos (by rw [hc, ht]; rfl)]
    exact h
theorem kit_type {K : PySem.W.Frag} {E : Addr} {T : String} {b : Bool} (hk : PySem.W.kitMeta T = true) (h : PySem.W.subIn K (.ref E) (.type T) = some b) : PySem.W.kitOne K (.ref E) (.type T) = some b := by
  unfold PySem.W.kitOne
  rw [if_neg (by simp)]
  show (if PySem.W.kitMeta T = true then PySem.W.subIn K (.ref E) (.type T) else none) = some b
  rw [if_pos hk]
  exact h
end
end Hm
set_option Elab.async false
set_option linter.all false
set_option maxRecDepth 100000
set_option maxHeartbeats 2000000
namespace Hm
open PySem L2 PySem.Spec PyProof.Rows

/-! ### dicts of one's own: keys ints and texts -/
def asK : D → (Key → Prop) → Prop
  | .int i, Q => Q (.inl i)
  | .str s, Q => Q (.inr s)
  | _, _ => False
@[simp] theorem asK_int {i : Int} {Q : Key → Prop} : asK (.int i) Q = Q (.inl i) := Eq.trans rfl rfl
@[simp] theorem asK_str {s : Str} {Q : Key → Prop} : asK (.str s) Q = Q (.inr s) := Eq.trans rfl rfl
def valD (kvs : List (Key × D)) (k : Key) : Option D := (kvs.find? fun kv => decide (kv.1 = k)).map (·.2)
def putD (kvs : List (Key × D)) (k : Key) (v : D) : List (Key × D) :=
  if (kvs.any fun kv => decide (kv.1 = k)) = true then kvs.map (fun kv => if kv.1 = k then (kv.1, v) else kv) else kvs ++ [(k, v)]
def mergeD (kvs more : List (Key × D)) : List (Key × D) := more.foldl (fun acc kv => putD acc kv.1 kv.2) kvs
section
variable {g : Gc} {B : Addr → Prop} {H : Hp}
theorem RepsK.length : ∀ {vs : List (Key × V)} {ds : List (Key × D)}, RepsK g B H vs ds → vs.length = ds.length
  | _, _, .nil => rfl
  | _, _, .cons _ t => congrArg (· + 1) (RepsK.length t)
theorem RepsK.val {k : Key} : ∀ {vs : List (Key × V)} {ds : List (Key × D)}, RepsK g B H vs ds → (valV vs k = none ∧ valD ds k = none) ∨ ∃ v d, valV vs k = some v ∧ valD ds k = some d ∧ Rep g B H v d
  | _, _, .nil => .inl ⟨rfl, rfl⟩
  | _, _, .cons (k := k') (v := v) (d := d) r t => by
    by_cases e : k' = k
    · exact .inr ⟨v, d, valV_pos e, by simp [valD, List.find?_cons, e], r⟩
    · rw [valV_neg (show ¬ (k', v).1 = k from e)]
      have e2 : ∀ r : List (Key × D), valD ((k', d) :: r) k = valD r k := fun r => by simp [valD, List.find?_cons, e]
      rw [e2]
      exact RepsK.val t
theorem RepsK.any {k : Key} : ∀ {vs : List (Key × V)} {ds : List (Key × D)}, RepsK g B H vs ds → (vs.any fun kv => decide (kv.1 = k)) = (ds.any fun kv => decide (kv.1 = k))
  | _, _, .nil => rfl
  | _, _, .cons r t => by rw [List.any_cons, List.any_cons, RepsK.any t]
theorem RepsK.app : ∀ {vs us : List (Key × V)} {ds es : List (Key × D)}, RepsK g B H vs ds → RepsK g B H us es → RepsK g B H (vs ++ us) (ds ++ es)
  | _, _, _, _, .nil, s => s
  | _, _, _, _, .cons r t, s => .cons r (RepsK.app t s)
theorem RepsK.repl {k : Key} {v : V} {d : D} (q : Rep g B H v d) : ∀ {vs : List (Key × V)} {ds : List (Key × D)}, RepsK g B H vs ds → RepsK g B H (vs.map fun kv => if kv.1 = k then (kv.1, v) else kv) (ds.map fun kv => if kv.1 = k then (kv.1, d) else kv)
  | _, _, .nil => .nil
  | _, _, .cons (k := k') r t => by
    rw [List.map_cons, List.map_cons]
    by_cases e : k' = k
    · rw [if_pos e, if_pos e]; exact .cons q (RepsK.repl q t)
    · rw [if_neg e, if_neg e]; exact .cons r (RepsK.repl q t)
theorem RepsK.put {k : Key} {v : V} {d : D} {vs : List (Key × V)} {ds : List (Key × D)} (r : RepsK g B H vs ds) (q : Rep g B H v d) : RepsK g B H (putK vs k v) (putD ds k d) := by
  unfold putK putD
  rw [r.any]
  split
  · exact r.repl q
  · exact r.app (.cons q .nil)
theorem RepsK.merge : ∀ {us vs : List (Key × V)} {es ds : List (Key × D)}, RepsK g B H us es → RepsK g B H vs ds → RepsK g B H (mergeK vs us) (mergeD ds es)
  | _, _, _, _, .nil, s => s
  | _, vs, _, ds, .cons (k := k) (v := v) (vs := us) (d := d) (ds := es) r t, s => show RepsK g B H (mergeK (putK vs k v) us) (mergeD (putD ds k d) es) from RepsK.merge t (s.put r)
theorem Rep.key {v : V} {d : D} {Q : Key → Prop} (r : Rep g B H v d) (h : asK d Q) : ∃ k, v = kV k ∧ Q k := by
  cases r with
  | int i => exact ⟨.inl i, rfl, h⟩
  | str s => exact ⟨.inr s, rfl, h⟩
  | _ => exact h.elim
end
section
variable {f : FrC} {B : Addr → Prop} {σ : L2.St} {H : Hp} {ρ : Rho} {n i : Nat} {p : Addr}
/-- a new object, kept to oneself -/
theorem Rel.hide {o : HO} (R : Rel f B σ H ρ n) (hp : H p = none) : Rel f (fun a => B a ∨ a = p) σ (L2.upd H p o) ρ n := by
  have gw : Gw H (L2.upd H p o) := Gw.new hp
  have av : ∀ a u, H a = some u → ¬ B a → L2.upd H p o a = some u ∧ ¬ (B a ∨ a = p) := fun a u h nb => ⟨gw a u h, fun z => z.elim nb (ne_of_none h hp)⟩
  have h0 := R.ok.h0 hp
  have R1 := R.kp gw.kp (gw.src R.ok.src)
  refine ⟨⟨R.ok.s0, R.ok.d0, fun a h => .inl (R.ok.b0 a h), fun a h => ?_, fun a h => ?_, R1.ok.keep, R1.ok.src⟩, R.len, fun j x o' h2 h3 => ?_, R.inj⟩
  · rcases h with h | rfl
    · exact R.ok.ow a h
    · exact .inr h0
  · rcases h with h | rfl
    · exact R1.ok.dom a h
    · rw [upd_same]; exact fun z => nomatch z
  · have q := R.sl j x o' h2 h3
    cases x with
    | un => trivial
    | dat d =>
      obtain ⟨v, e1, r⟩ := q
      exact ⟨v, e1, r.move av⟩
    | own ds =>
      obtain ⟨p', vs, e1, b, h0, hp', r⟩ := q
      exact ⟨p', vs, e1, .inl b, h0, gw _ _ hp', r.move av⟩
    | ownt ds =>
      obtain ⟨p', vs, e1, b, h0, hp', r⟩ := q
      exact ⟨p', vs, e1, .inl b, h0, gw _ _ hp', r.move av⟩
    | kt d =>
      obtain ⟨v, e1, r⟩ := q
      exact ⟨v, e1, r.move av⟩
    | ownd ds =>
      obtain ⟨p', vs, e1, b, h0, hp', r⟩ := q
      exact ⟨p', vs, e1, .inl b, h0, gw _ _ hp', r.move av⟩
/-- nobody's slot holds what is not tracked -/
theorem Rel.noSlot (R : Rel f B σ H ρ n) (hp : H p = none) : ∀ (j : Nat) x, ρ[j]? = some x → x.isOwn = true → σ[j]? ≠ some (some (.ref p)) := fun j x h1 h2 h3 => by
  have q := R.sl j x _ h1 h3
  cases x with
  | un => cases h2
  | dat d => cases h2
  | own ds =>
    obtain ⟨p', vs, e1, b, h0, hp', r⟩ := q
    cases e1
    rw [hp] at hp'; cases hp'
  | ownt ds =>
    obtain ⟨p', vs, e1, b, h0, hp', r⟩ := q
    cases e1
    rw [hp] at hp'; cases hp'
  | kt d => cases h2
  | ownd ds =>
    obtain ⟨p', vs, e1, b, h0, hp', r⟩ := q
    cases e1
    rw [hp] at hp'; cases hp'
/-- a slot gets an own dict that stands already -/
theorem Rel.setOwnD {vs : List (Key × V)} {ds : List (Key × D)} (R : Rel f B σ H ρ n) (hB : B p) (h0 : f.H0 p = none) (old : ∀ (j : Nat) x, ρ[j]? = some x → x.isOwn = true → σ[j]? ≠ some (some (.ref p))) (hp : H p = some (.dK vs)) (r : RepsK f.g B H vs ds) :
    Rel f B (σ.set i (some (.ref p))) H (ρ.set i (.ownd ds)) n := by
  refine ⟨R.ok, by rw [List.length_set, List.length_set, R.len], fun j x o h2 h3 => ?_, fun a b q x y ne h2 o2 h3 o3 s2 => ?_⟩
  · rcases set_cases h2 with ⟨e1, e2, _⟩ | ⟨e1, h2⟩
    · rcases set_cases h3 with ⟨_, e4, _⟩ | ⟨e3, _⟩
      · subst e2; subst e4
        exact ⟨p, vs, rfl, hB, h0, hp, r⟩
      · exact absurd e1 e3
    · rcases set_cases h3 with ⟨e3, _⟩ | ⟨_, h3⟩
      · exact absurd e3 e1
      · exact R.sl j x o h2 h3
  · rcases set_cases h2 with ⟨e1, e2, l1⟩ | ⟨e1, h2⟩
    · subst e1
      rw [List.getElem?_set_self (by rw [R.len]; exact l1)] at s2
      cases s2
      rcases set_cases h3 with ⟨e3, _⟩ | ⟨e3, h3⟩
      · exact absurd e3 ne
      · rw [List.getElem?_set_ne e3]
        exact old b y h3 o3
    · rw [List.getElem?_set_ne e1] at s2
      rcases set_cases h3 with ⟨e3, e4, l3⟩ | ⟨e3, h3⟩
      · subst e3
        rw [List.getElem?_set_self (by rw [R.len]; exact l3)]
        intro z
        cases z
        exact old a x h2 o2 s2
      · rw [List.getElem?_set_ne e3]
        exact R.inj a b q x y ne h2 o2 h3 o3 s2
theorem Rel.ownAtD {ds : List (Key × D)} (R : Rel f B σ H ρ n) (e : ρ[i]? = some (.ownd ds)) : ∃ p vs, σ[i]? = some (some (.ref p)) ∧ B p ∧ f.H0 p = none ∧ H p = some (.dK vs) ∧ RepsK f.g B H vs ds := by
  have hl : i < σ.length := by rw [R.len]; exact (List.getElem?_eq_some_iff.mp e).1
  obtain ⟨p, vs, e1, r⟩ := R.sl i _ _ e (List.getElem?_eq_getElem hl)
  exact ⟨p, vs, by rw [List.getElem?_eq_getElem hl, e1], r⟩
/-- an own dict is written anew -/
theorem Rel.putOwnD {ds es : List (Key × D)} {us : List (Key × V)} (R : Rel f B σ H ρ n) (hi : ρ[i]? = some (.ownd ds)) (hs : σ[i]? = some (some (.ref p))) (hB : B p) (h0 : f.H0 p = none) (r : RepsK f.g B H us es) :
    Rel f B σ (L2.upd H p (.dK us)) (ρ.set i (.ownd es)) n := by
  refine ⟨R.ok.upd hB h0, by rw [List.length_set, R.len], fun j x o h2 h3 => ?_, fun a b q x y ne h2 o2 h3 o3 s2 => ?_⟩
  · rcases set_cases h2 with ⟨e1, e2, _⟩ | ⟨e1, h2⟩
    · subst e1; subst e2
      rw [hs] at h3; cases h3
      exact ⟨p, us, rfl, hB, h0, upd_same, r.upd hB⟩
    · have q := R.sl j x o h2 h3
      cases x with
      | un => trivial
      | dat d =>
        obtain ⟨v, e1, r⟩ := q
        exact ⟨v, e1, r.upd hB⟩
      | own ds' =>
        obtain ⟨p', vs, e2, b, h0', hp', r⟩ := q
        have ne : p' ≠ p := fun z => R.inj i j p _ _ e1 hi rfl h2 rfl hs (by rw [h3, e2, z])
        exact ⟨p', vs, e2, b, h0', by rw [upd_ne ne]; exact hp', r.upd hB⟩
      | ownt ds' =>
        obtain ⟨p', vs, e2, b, h0', hp', r⟩ := q
        have ne : p' ≠ p := fun z => R.inj i j p _ _ e1 hi rfl h2 rfl hs (by rw [h3, e2, z])
        exact ⟨p', vs, e2, b, h0', by rw [upd_ne ne]; exact hp', r.upd hB⟩
      | kt d =>
        obtain ⟨v, e1, r⟩ := q
        exact ⟨v, e1, r.upd hB⟩
      | ownd ds' =>
        obtain ⟨p', vs, e2, b, h0', hp', r⟩ := q
        have ne : p' ≠ p := fun z => R.inj i j p _ _ e1 hi rfl h2 rfl hs (by rw [h3, e2, z])
        exact ⟨p', vs, e2, b, h0', by rw [upd_ne ne]; exact hp', r.upd hB⟩
  · rcases set_cases h2 with ⟨e1, e2, l1⟩ | ⟨e1, h2⟩
    · rcases set_cases h3 with ⟨e3, _⟩ | ⟨e3, h3⟩
      · exact absurd (e1.symm.trans e3) ne
      · subst e1
        exact R.inj i b q _ y ne hi rfl h3 o3 s2
    · rcases set_cases h3 with ⟨e3, e4, l3⟩ | ⟨e3, h3⟩
      · subst e3
        exact R.inj a i q x _ ne h2 o2 hi rfl s2
      · exact R.inj a b q x y ne h2 o2 h3 o3 s2
end
/-! readings -/
/-- the pairs of a display -/
def mPairs : List (ME × ME) → Rho → (List (Key × D) → Prop) → XKD → Prop
  | [], _, Q, _ => Q []
  | (k, v) :: r, ρ, Q, W => k ρ (fun x => v ρ (fun y => mPairs r ρ (fun ps => asK x fun q => Q ((q, y) :: ps)) W) W) W
@[simp] theorem mPairs_nil (ρ : Rho) (Q : List (Key × D) → Prop) (W : XKD) : mPairs [] ρ Q W = Q [] := Eq.trans rfl rfl
@[simp] theorem mPairs_cons (k v : ME) (r : List (ME × ME)) (ρ : Rho) (Q : List (Key × D) → Prop) (W : XKD) : mPairs ((k, v) :: r) ρ Q W = (k ρ (fun x => v ρ (fun y => mPairs r ρ (fun ps => asK x fun q => Q ((q, y) :: ps)) W) W) W) := Eq.trans rfl rfl
def RP (f : FrC) (W : WX) (c : Nat) (m : List (ME × ME)) : L2.St → Hp → (List (V × V) → Hp → Prop) → Prop := fun σ H Q => ∃ (B : Addr → Prop) (n : Nat) (ρ : Rho) (Q0 : List (Key × D) → Prop) (W0 : XKD), Rel f B σ H ρ (n + c) ∧ mPairs m ρ Q0 W0 ∧
  (∀ ds vs H', Q0 ds → Kp f.g H H' → SrcOk f.g H' n → RepsK f.g B H' vs ds → Q (vs.map fun kv => (kV kv.1, kv.2)) H') ∧ (∀ x cls dd H', W0 x → Kp f.g H H' → SrcOk f.g H' n → ErrAt f.g B H' cls dd x → W cls dd σ H')
section
variable {f : FrC} {X : Cx} {W : WX} {ca cb cc : Nat} {a b c : Expr} {es : List Expr} {ma mb mc : ME} {mas : MA} {pos : Pos} {ms : MS}
def CPs (f : FrC) (X : Cx) (W : WX) (c : Nat) (pos : Pos) (ks : List (Option Expr)) (vs : List Expr) (m : List (ME × ME)) : Prop := ∃ trs, PPs X pos ks vs trs ∧ ∀ σ H Q, RP f W c m σ H Q → tPairs trs σ H Q
theorem cp_nil : CPs f X W 0 pos [] [] [] := ⟨[], pps_nil, fun σ H Q h => by
  obtain ⟨B, n, ρ, Q0, W0, R, hm, hq, hw⟩ := h
  exact hq [] [] H hm (Kp.refl H) R.ok.src .nil⟩
theorem cp_cons {ks : List (Option Expr)} {vs : List Expr} {mps : List (ME × ME)} (hk : CE f X W ca a ma) (hv : CE f X W cb b mb) (hr : CPs f X W cc pos ks vs mps) : CPs f X W (ca + (cb + cc)) pos (some a :: ks) (b :: vs) ((ma, mb) :: mps) := by
  obtain ⟨trs, h1, h2⟩ := hr
  refine ⟨(RD f W ca ma, RD f W cb mb) :: trs, pps_cons hk hv h1, fun σ H Q h => ?_⟩
  obtain ⟨B, n, ρ, Q0, W0, R, hm, hq, hw⟩ := h
  refine rd_i (m := n + (cb + cc)) (R.mono (by omega)) hm (fun x v H1 h1' e1 R1 r1 => ?_) fun x cls dd H' q e s er => hw x cls dd H' q e (s.mono (by omega)) er
  refine rd_i (m := n + cc) (R1.mono (by omega)) h1' (fun y u H2 h2' e2 R2 r2 => ?_) fun x cls dd H' q e s er => hw x cls dd H' q (e1.trans e) (s.mono (by omega)) er
  refine h2 _ _ _ ⟨B, n, ρ, _, W0, R2, h2', fun ds vs H3 q3 e3 s3 r3 => ?_, fun x cls dd H' q e s er => hw x cls dd H' q ((e1.trans e2).trans e) s er⟩
  obtain ⟨k, ek, q4⟩ := ((r1.kp R1.ok e2).kp R2.ok e3).key q3
  have := hq _ ((k, u) :: vs) H3 q4 ((e1.trans e2).trans e3) s3 (.cons (r2.kp R2.ok e3) r3)
  rw [List.map_cons] at this
  rw [ek]
  exact this
def mAsgD (i : Nat) (m : List (ME × ME)) : MS := fun ρ E => mPairs m ρ (fun ds => ds.length ≤ 15 ∧ E.nx (ρ.set i (.ownd (mergeD [] ds)))) (E.ex ρ)
@[simp] theorem mAsgD_eq (i : Nat) (m : List (ME × ME)) (ρ : Rho) (E : DEnds) : mAsgD i m ρ E = mPairs m ρ (fun ds => ds.length ≤ 15 ∧ E.nx (ρ.set i (.ownd (mergeD [] ds)))) (E.ex ρ) := Eq.trans rfl rfl
/-- x = {..}, to be changed -/
theorem cs_asgD {i : Nat} {x : Str} {p : Pos} {dpos : Pos} {ks : List (Option Expr)} {vs : List Expr} {m : List (ME × ME)} (hN : X.N.Nodup) (he : CPs f X W ca dpos ks vs m) (hall : ks.all (·.isSome) = true := by rfl) (hlen : ks.length = vs.length := by rfl) (hne : ks ≠ [] := by intro z; cases z) (h15 : ks.length ≤ 15 := by decide)
    (hi : X.N[i]? = some x := by rfl) (hx : Loc X.env.scope x := by first | exact Or.inl rfl | exact Or.inr rfl) (hf : X.fn x = true ∨ X.env.scope.names.lookup x = some .local := by first | exact .inl rfl | exact .inr rfl | assumption)
    (hs : swapsWithSole [.Name x p] (.Dict ks vs dpos) pos.line X.env = pure false := by rfl) (hw : swappedStores [.Name x p] (.Dict ks vs dpos) X.env = pure none := by rfl) : CS f X W ca (.Assign [.Name x p] (.Dict ks vs dpos) pos) (mAsgD i m) := by
  obtain ⟨trs, h1, h2⟩ := he
  refine PS.imp (ps_asg (pe_disp h1 hall hlen hne h15) (pg_name (i := i) hN hi hx hf) hs hw rfl) fun De σ H h => ?_
  obtain ⟨B, n, ρ, E, R, hm, hn, hr, hb, hc, hx⟩ := h
  intro p hp
  have R1 : Rel f (fun a => B a ∨ a = p) σ (upd H p (.dK [])) ρ (n + ca) := R.hide hp
  have h0 := R.ok.h0 hp
  have ns := R.ok.nS h0
  refine h2 _ _ _ ⟨_, n, ρ, _, _, R1, hm, fun ds vs H' q e s r => ?_, fun y cls dd H' q e s er => hx _ y cls dd σ H' ρ q (R1.kp e s) er⟩
  have hp' : H' p = some (.dK []) := e p _ ns upd_same
  have R2 := R1.kp e s
  refine ⟨hp', vs, rfl, by rw [r.length]; exact q.1, ?_⟩
  have hB : (fun a => B a ∨ a = p) p := .inr rfl
  have R3 : Rel f (fun a => B a ∨ a = p) σ (upd H' p (.dK (mergeK [] vs))) ρ n := by
    refine ⟨R2.ok.upd hB h0, R2.len, fun j x o h2 h3 => ?_, R2.inj⟩
    have q := R2.sl j x o h2 h3
    cases x with
    | un => trivial
    | dat d =>
      obtain ⟨v, e1, r⟩ := q
      exact ⟨v, e1, r.upd hB⟩
    | own ds' =>
      obtain ⟨p', vs, e2, b, h0', hp', r⟩ := q
      have ne : p' ≠ p := fun z => R.noSlot hp j _ h2 rfl (by rw [h3, e2, z])
      exact ⟨p', vs, e2, b, h0', by rw [upd_ne ne]; exact hp', r.upd hB⟩
    | ownt ds' =>
      obtain ⟨p', vs, e2, b, h0', hp', r⟩ := q
      have ne : p' ≠ p := fun z => R.noSlot hp j _ h2 rfl (by rw [h3, e2, z])
      exact ⟨p', vs, e2, b, h0', by rw [upd_ne ne]; exact hp', r.upd hB⟩
    | kt d =>
      obtain ⟨v, e1, r⟩ := q
      exact ⟨v, e1, r.upd hB⟩
    | ownd ds' =>
      obtain ⟨p', vs, e2, b, h0', hp', r⟩ := q
      have ne : p' ≠ p := fun z => R.noSlot hp j _ h2 rfl (by rw [h3, e2, z])
      exact ⟨p', vs, e2, b, h0', by rw [upd_ne ne]; exact hp', r.upd hB⟩
  exact hn _ _ _ _ q.2 (R3.setOwnD hB h0 (R.noSlot hp) upd_same ((RepsK.merge r .nil).upd hB))
def ownd? : Option Sl → (List (Key × D) → Prop) → Prop
  | some (.ownd ds), Q => Q ds
  | _, _ => False
@[simp] theorem ownd?_eq (ds : List (Key × D)) (Q : List (Key × D) → Prop) : ownd? (some (.ownd ds)) Q = Q ds := Eq.trans rfl rfl
theorem ownd?_is {o : Option Sl} {Q : List (Key × D) → Prop} (h : ownd? o Q) : ∃ ds, o = some (.ownd ds) ∧ Q ds := by
  unfold ownd? at h
  split at h
  · exact ⟨_, rfl, h⟩
  · exact h.elim
/-- x[k] = v, x an own dict -/
def mDput (i : Nat) (k v : ME) : MS := fun ρ E => ownd? ρ[i]? fun ds => v ρ (fun y => k ρ (fun x => ds.length < sizeLine ∧ asK x fun q => E.nx (ρ.set i (.ownd (putD ds q y)))) (E.ex ρ)) (E.ex ρ)
@[simp] theorem mDput_eq (i : Nat) (k v : ME) (ρ : Rho) (E : DEnds) : mDput i k v ρ E = (ownd? ρ[i]? fun ds => v ρ (fun y => k ρ (fun x => ds.length < sizeLine ∧ asK x fun q => E.nx (ρ.set i (.ownd (putD ds q y)))) (E.ex ρ)) (E.ex ρ)) := Eq.trans rfl rfl
theorem cs_dput {i : Nat} {x : Str} {px pos' : Pos} (hu : X.A.units + 64 < cLine) (hk : CE f X W ca a ma) (hv : CE f X W cb b mb) (hN : X.N[i]? = some x := by rfl) (hvi : Vis X.env.scope x := by first | exact Or.inl rfl | exact Or.inr (Or.inl rfl) | exact Or.inr (Or.inr rfl)) (hd : (x == ("__debug__" : Str)) = false := by decide) (hcd : (x == ("__classdict__" : Str)) = false := by decide)
    (hs : swapsWith b (some (.Subscript (.Name x px) a pos')) pos.line X.env = pure false := by rfl) : CS f X W (cb + ca) (.Assign [.Subscript (.Name x px) a pos'] b pos) (mDput i ma mb) :=
  PS.imp (ps_dput (by omega) (pe_var hN hvi hd hcd) hk hv hs) fun De σ H h => by
    obtain ⟨B, n, ρ, E, R, hm, hn, hr, hb, hc, hx⟩ := h
    obtain ⟨ds, eo, hm⟩ := ownd?_is hm
    obtain ⟨p, vs, es, hB, h0, hp, r⟩ := R.ownAtD eo
    refine rd_i (m := n + ca) (R.mono (by omega)) hm (fun y u H1 h1 e1 R1 r1 => ?_) fun x cls dd H' q e s er => hx B x cls dd σ H' ρ q (R.kp e (s.mono (by omega))) er
    refine ⟨.ref p, es, ?_⟩
    refine rd_i (m := n) R1 h1 (fun z w H2 h2 e2 R2 r2 => ?_) fun x cls dd H' q e s er => hx B x cls dd σ H' ρ q (R1.kp e s) er
    obtain ⟨k, ek, q⟩ := r2.key h2.2
    have hp2 : H2 p = some (.dK vs) := e2 _ _ (R.ok.nS h0) (e1 _ _ (R.ok.nS h0) hp)
    have rr := (r.kp R.ok e1).kp R1.ok e2
    exact ⟨p, _, rfl, by rw [ek]; exact DPut.k hp2 (by rw [rr.length]; exact h2.1), hn B σ _ _ q (R2.putOwnD eo es hB h0 (rr.put (r1.kp R1.ok e2)))⟩
/-- x[k], x an own dict -/
def mDget (i : Nat) (k : ME) : ME := fun ρ Q W => ownd? ρ[i]? fun ds => k ρ (fun x => asK x fun q => ∃ d, valD ds q = some d ∧ Q d) W
@[simp] theorem mDget_eq (i : Nat) (k : ME) (ρ : Rho) (Q : DK) (W : XKD) : mDget i k ρ Q W = (ownd? ρ[i]? fun ds => k ρ (fun x => asK x fun q => ∃ d, valD ds q = some d ∧ Q d) W) := Eq.trans rfl rfl
theorem ce_dget {i : Nat} {x : Str} {px : Pos} (hu : X.A.units + 64 < cLine) (hk : CE f X W ca a ma) (hN : X.N[i]? = some x := by rfl) (hvi : Vis X.env.scope x := by first | exact Or.inl rfl | exact Or.inr (Or.inl rfl) | exact Or.inr (Or.inr rfl)) (hd : (x == ("__debug__" : Str)) = false := by decide) (hcd : (x == ("__classdict__" : Str)) = false := by decide)
    (hs : NoSl a := by intro _ _; rfl) : CE f X W ca (.Subscript (.Name x px) a pos) (mDget i ma) :=
  PE.imp (pe_dget (by omega) (pe_var hN hvi hd hcd) hk hs) fun σ H Q h => by
    obtain ⟨B, n, ρ, Q0, W0, R, hm, hq, hw⟩ := h
    obtain ⟨ds, eo, hm⟩ := ownd?_is hm
    obtain ⟨p, vs, es, hB, h0, hp, r⟩ := R.ownAtD eo
    refine ⟨.ref p, es, ?_⟩
    refine rd_i (m := n) R hm (fun z w H2 h2 e2 R2 r2 => ?_) hw
    obtain ⟨k, ek, d, q1, q2⟩ := r2.key h2
    have hp2 : H2 p = some (.dK vs) := e2 _ _ (R.ok.nS h0) hp
    have rr := r.kp R.ok e2
    rcases rr.val (k := k) with ⟨_, z⟩ | ⟨v, d', z1, z2, z3⟩
    · rw [z] at q1; cases q1
    · rw [z2] at q1; cases q1
      exact ⟨p, v, rfl, by rw [ek, ← z1]; exact DGet.k hp2, hq _ _ H2 q2 e2 R2.ok.src z3⟩
@[simp] theorem valD_nil (k : Key) : valD [] k = none := Eq.trans rfl rfl
@[simp] theorem valD_cons (k k' : Key) (d : D) (r : List (Key × D)) : valD ((k', d) :: r) k = if k' = k then some d else valD r k := by
  unfold valD
  by_cases e : k' = k <;> simp [List.find?_cons, e]
theorem putD_new {k : Key} {d : D} : ∀ {ds : List (Key × D)}, (ds.any fun kv => decide (kv.1 = k)) = false → putD ds k d = ds ++ [(k, d)] := fun {ds} h => by
  unfold putD; rw [if_neg (by rw [h]; exact Bool.false_ne_true)]
/-- x = {}, to be changed -/
def mAsgD0 (i : Nat) : MS := fun ρ E => E.nx (ρ.set i (.ownd []))
@[simp] theorem mAsgD0_eq (i : Nat) (ρ : Rho) (E : DEnds) : mAsgD0 i ρ E = E.nx (ρ.set i (.ownd [])) := Eq.trans rfl rfl
theorem cs_asgD0 {i : Nat} {x : Str} {p : Pos} {dpos : Pos} (hN : X.N.Nodup) (hi : X.N[i]? = some x := by rfl) (hx : Loc X.env.scope x := by first | exact Or.inl rfl | exact Or.inr rfl) (hf : X.fn x = true ∨ X.env.scope.names.lookup x = some .local := by first | exact .inl rfl | exact .inr rfl | assumption)
    (hs : swapsWithSole [.Name x p] (.Dict [] [] dpos) pos.line X.env = pure false := by rfl) (hw : swappedStores [.Name x p] (.Dict [] [] dpos) X.env = pure none := by rfl) : CS f X W 0 (.Assign [.Name x p] (.Dict [] [] dpos) pos) (mAsgD0 i) :=
  PS.imp (ps_asg pe_dnewK (pg_name (i := i) hN hi hx hf) hs hw rfl) fun De σ H h => by
    obtain ⟨B, n, ρ, E, R, hm, hn, hr, hb, hc, hx⟩ := h
    intro p hp
    exact hn _ _ _ _ hm ((R.hide hp).setOwnD (.inr rfl) (R.ok.h0 hp) (R.noSlot hp) upd_same .nil)
/-- {} as a datum -/
theorem ce_dnew : CE f X W 0 (.Dict [] [] pos) (mC (.dct [])) := PE.imp pe_dnewK fun σ H Q h => by
  obtain ⟨B, n, ρ, Q0, W0, R, hm, hq, hw⟩ := h
  intro p hp
  have gw : Gw H (upd H p (.dK [])) := Gw.new hp
  exact hq _ _ _ hm gw.kp (gw.src R.ok.src) (.dct upd_same (nB R.ok.dom hp) .nil)
end
end Hm
set_option Elab.async false
set_option linter.all false
set_option maxRecDepth 100000
set_option maxHeartbeats 2000000
namespace Hm
open PySem L2 PySem.Spec PyProof.Rows

/-! ### list.count, list.index of flat values -/
section
variable {X : Cx}
def rCntV (K : PySem.W.Frag) : V → List V → Hp → VK → Prop := fun x xs H Q => ∃ (a : Addr) (ys : List V) (y : V), x = V.ref a ∧ xs = [y] ∧ SqL K H a ys ∧ flatV y = true ∧ ys.all flatV = true ∧ Q (.int ((ys.countP fun z => eqV z y : Nat) : Int)) H
theorem cntU {y : V} : ∀ {ys : List V} {us : List Value}, Vals ys us → ys.all flatV = true → us.countP (eqU y) = ys.countP fun z => eqV z y
  | _, _, .nil, _ => rfl
  | _, _, .cons r t, h => by
    have h' := Bool.and_eq_true_iff.mp (show (_ && _) = true from h)
    rw [List.countP_cons, List.countP_cons, cntU t h'.2, eqU_of r h'.1]
theorem mt_cntV : MtR X "list.count" (rCntV X.K) := by
  intro pins s σ H x xs v us Q I rx rxs h
  obtain ⟨a, ys, y, rfl, rfl, hs, fy, fys, q⟩ := h
  cases rx
  cases rxs with
  | cons ry rt =>
    rename_i uy ut
    cases rt
    obtain ⟨its, rv, ⟨⟨cls, dd, data, sl⟩, n, ho, hc, hdn, hd⟩, hlen⟩ := I.list hs
    simp only at hc hd
    subst hc hd
    refine call_meets PySem.F.slot_list_count ⟨_, ho, rfl⟩ PySem.F.entry_list_count (PySem.F.args_list_count_2 _ _) (SeqAt.list_countAt a its.toArray n dd sl uy (eqU y)) ⟨ho, fun u' hu' => mem_eqAt ry fy rv fys u' (by simpa using hu'), ?_⟩
    refine ⟨.int ((ys.countP fun z => eqV z y : Nat) : Int), H, I.tok _, ⟨s.toks, ?_⟩, q⟩
    show Value.int ((its.toArray.toList.countP (eqU y) : Nat) : Int) s.toks = Value.int ((ys.countP fun z => eqV z y : Nat) : Int) s.toks
    rw [show its.toArray.toList = its from rfl, cntU rv fys]
end
/-- a list's method with one argument -/
def mMetL (op : List D → D → DK → Prop) (a b : ME) : ME := fun ρ Q W => a ρ (fun x => asL x fun xs => b ρ (fun y => op xs y Q) W) W
@[simp] theorem mMetL_eq (op : List D → D → DK → Prop) (a b : ME) (ρ : Rho) (Q : DK) (W : XKD) : mMetL op a b ρ Q W = (a ρ (fun x => asL x fun xs => b ρ (fun y => op xs y Q) W) W) := Eq.trans rfl rfl
def dCount (xs : List D) (y : D) (Q : DK) : Prop := y.flat = true ∧ xs.all D.flat = true ∧ Q (.int ((xs.countP fun z => D.eqF z y : Nat) : Int))
/-- the place of the first that is equal -/
def idxD (xs : List D) (y : D) : Option Nat := xs.findIdx? fun z => D.eqF z y
def dIndex (xs : List D) (y : D) (Q : DK) : Prop := y.flat = true ∧ xs.all D.flat = true ∧ ∃ j : Nat, idxD xs y = some j ∧ Q (.int (j : Nat))
@[simp] theorem dCount_eq {xs : List D} {y : D} {Q : DK} : dCount xs y Q = (y.flat = true ∧ xs.all D.flat = true ∧ Q (.int ((xs.countP fun z => D.eqF z y : Nat) : Int))) := Eq.trans rfl rfl
@[simp] theorem dIndex_eq {xs : List D} {y : D} {Q : DK} : dIndex xs y Q = (y.flat = true ∧ xs.all D.flat = true ∧ ∃ j : Nat, idxD xs y = some j ∧ Q (.int (j : Nat))) := Eq.trans rfl rfl
section
variable {g : Gc} {B : Addr → Prop} {H : Hp}
theorem Reps.flats : ∀ {vs : List V} {ds : List D}, Reps g B H vs ds → ds.all D.flat = true → vs.all L2.flatV = true
  | _, _, .nil, _ => rfl
  | _, _, .cons r t, h => by
    have h' := Bool.and_eq_true_iff.mp (show (_ && _) = true from h)
    rw [List.all_cons, r.flatV h'.1, Reps.flats t h'.2]; rfl
theorem Reps.cnt {u : V} {e : D} (q : Rep g B H u e) (he : e.flat = true) : ∀ {vs : List V} {ds : List D}, Reps g B H vs ds → ds.all D.flat = true → (vs.countP fun z => eqV z u) = ds.countP fun z => D.eqF z e
  | _, _, .nil, _ => rfl
  | _, _, .cons r t, h => by
    have h' := Bool.and_eq_true_iff.mp (show (_ && _) = true from h)
    rw [List.countP_cons, List.countP_cons, Reps.cnt q he t h'.2, r.eqF q h'.1 he]
theorem Reps.idx {u : V} {e : D} (q : Rep g B H u e) (he : e.flat = true) {vs : List V} {ds : List D} {j : Nat} (r : Reps g B H vs ds) (h : ds.all D.flat = true) (hj : idxD ds e = some j) :
    ∃ z, vs[j]? = some z ∧ eqV z u = true ∧ ∀ (m : Nat) (z' : V), m < j → vs[m]? = some z' → eqV z' u = false := by
  unfold idxD at hj
  obtain ⟨hl, hy, hn⟩ := List.findIdx?_eq_some_iff_getElem.mp hj
  have at_ : ∀ (m : Nat) (hm : m < ds.length), ∃ z, vs[m]? = some z ∧ eqV z u = D.eqF ds[m] e := fun m hm => by
    obtain ⟨z, z1, z2⟩ := r.get (List.getElem?_eq_getElem hm)
    exact ⟨z, z1, z2.eqF q (List.all_eq_true.mp h _ (List.getElem_mem hm)) he⟩
  obtain ⟨z, z1, z2⟩ := at_ j hl
  refine ⟨z, z1, z2.trans hy, fun m z' hm hz' => ?_⟩
  obtain ⟨z'', y1, y2⟩ := at_ m (by omega)
  rw [y1] at hz'
  cases hz'
  rw [y2]
  exact Bool.eq_false_iff.mpr (hn m hm)
end
section
variable {f : FrC} {X : Cx} {W : WX} {ca cb cc : Nat} {a b c : Expr} {es : List Expr} {ma mb mc : ME} {mas : MA} {pos : Pos} {ms : MS}
theorem ce_lcount {apos cpos : Pos} (hK : f.g.K = X.K) (ho : CE f X W ca a ma) (he : CE f X W cb b mb) (hbase : attributeBase a "count" X.env (eval a X.env) = eval a X.env := by rfl)
    (hfew : ((backTo cpos (starEach [b] X.env)).all (fun x => !x.1) && (backToKw cpos (keywordEach [] X.env)).all (fun x => x.1.isSome)
      && decide ([b].length + ([] : List Keyword).length + (if ([] : List Keyword).isEmpty then 0 else 1) < 30)) = true := by rfl)
    (hline : (apos.endLine == cpos.line) = true := by rfl) (hst : starEach [b] X.env = (false, eval b X.env) :: starEach [] X.env := by rfl) (hplain : (backTo cpos (starEach [] X.env)).any (·.1) = false := by rfl) :
    CE f X W (ca + cb) (.Call (.Attribute a "count" apos) [b] [] cpos) (mMetL dCount ma mb) :=
  PE.imp (pe_bm PySem.F.plainAttrs_list PySem.F.slot_list_count PySem.F.type_list_count mt_cntV ho (pa_cons he pa_nil hst) hbase hfew hline hst hplain) fun σ H Q h => by
    obtain ⟨B, n, ρ, Q0, W0, R, hm, hq, hw⟩ := h
    refine rd_i (m := n + cb) (R.mono (by omega)) hm (fun x v H1 h1 e1 R1 r1 => ?_) fun x cls dd H' q e s er => hw x cls dd H' q e (s.mono (by omega)) er
    cases r1 with
    | lst ha nb rs =>
      refine ⟨.inl ⟨rfl, _, .inl (.inl ha)⟩, ?_⟩
      refine rd_i (m := n) R1 h1 (fun y u H2 h2 e2 R2 r2 => ?_) fun x cls dd H' q e s er => hw x cls dd H' q (e1.trans e) s er
      have ha2 := e2 _ _ (fun z => nb (R1.ok.inB z)) ha
      have rs2 := rs.kp R1.ok e2
      refine ⟨_, _, _, rfl, rfl, .inl (.inl ha2), r2.flatV h2.1, rs2.flats h2.2.1, ?_⟩
      rw [rs2.cnt r2 h2.1 h2.2.1]
      exact hq _ _ H2 h2.2.2 (e1.trans e2) R2.ok.src (.int _)
    | _ => exact h1.elim
theorem ce_lindex {apos cpos : Pos} (hK : f.g.K = X.K) (ho : CE f X W ca a ma) (he : CE f X W cb b mb) (hbase : attributeBase a "index" X.env (eval a X.env) = eval a X.env := by rfl)
    (hfew : ((backTo cpos (starEach [b] X.env)).all (fun x => !x.1) && (backToKw cpos (keywordEach [] X.env)).all (fun x => x.1.isSome)
      && decide ([b].length + ([] : List Keyword).length + (if ([] : List Keyword).isEmpty then 0 else 1) < 30)) = true := by rfl)
    (hline : (apos.endLine == cpos.line) = true := by rfl) (hst : starEach [b] X.env = (false, eval b X.env) :: starEach [] X.env := by rfl) (hplain : (backTo cpos (starEach [] X.env)).any (·.1) = false := by rfl) :
    CE f X W (ca + cb) (.Call (.Attribute a "index" apos) [b] [] cpos) (mMetL dIndex ma mb) :=
  PE.imp (pe_bm PySem.F.plainAttrs_list PySem.F.slot_list_index PySem.F.type_list_index mt_index ho (pa_cons he pa_nil hst) hbase hfew hline hst hplain) fun σ H Q h => by
    obtain ⟨B, n, ρ, Q0, W0, R, hm, hq, hw⟩ := h
    refine rd_i (m := n + cb) (R.mono (by omega)) hm (fun x v H1 h1 e1 R1 r1 => ?_) fun x cls dd H' q e s er => hw x cls dd H' q e (s.mono (by omega)) er
    cases r1 with
    | lst ha nb rs =>
      refine ⟨.inl ⟨rfl, _, .inl (.inl ha)⟩, ?_⟩
      refine rd_i (m := n) R1 h1 (fun y u H2 h2 e2 R2 r2 => ?_) fun x cls dd H' q e s er => hw x cls dd H' q (e1.trans e) s er
      have ha2 := e2 _ _ (fun z => nb (R1.ok.inB z)) ha
      have rs2 := rs.kp R1.ok e2
      obtain ⟨g1, g2, j, g3, g4⟩ := h2
      obtain ⟨z, z1, z2, z3⟩ := rs2.idx r2 g1 g2 g3
      exact ⟨_, _, _, j, z, rfl, rfl, .inl (.inl ha2), r2.flatV g1, rs2.flats g2, z1, z2, z3, hq _ _ H2 g4 (e1.trans e2) R2.ok.src (.int _)⟩
    | _ => exact h1.elim
end
end Hm
set_option Elab.async false
set_option linter.all false
set_option maxRecDepth 100000
set_option maxHeartbeats 2000000
namespace Hm
open PySem L2 PySem.Spec PyProof.Rows
/-! ### a dict of the module's top -/
def dTbl (tbl : Str → Option D) : D → DK → Prop
  | .str z, Q => ∃ d, tbl z = some d ∧ Q d
  | _, _ => False
@[simp] theorem dTbl_eq {tbl : Str → Option D} {z : Str} {Q : DK} : dTbl tbl (.str z) Q = (∃ d, tbl z = some d ∧ Q d) := Eq.trans rfl rfl
/-- what is to be known of it -/
def TblAt (K : PySem.W.Frag) (w : World) (A : Addr) (tbl : Str → Option D) : Prop := ∀ z d, tbl z = some d → ∃ v, KDct K w A z v ∧ ∀ g B H, Rep g B H v d
section
variable {f : FrC} {X : Cx} {W : WX} {ca cb cc : Nat} {a b c : Expr} {es : List Expr} {ma mb mc : ME} {mas : MA} {pos : Pos} {ms : MS}
theorem ce_kd {x : Str} {p : Pos} {K : PySem.W.Frag} {w : World} {mg : Str → Option Value} {tbl : Str → Option D} (T : ∃ A, mg x = some (.ref A) ∧ TblAt K w A tbl) (hm : X.mg = mg) (hK : X.K = K) (hw : X.w = w) (hg : Gl X x) (he : CE f X W ca a ma) (hs : PlainIx a := by intro _ _; rfl) (hdb : (x == ("__debug__" : Str)) = false := by decide) :
    CE f X W ca (.Subscript (.Name x p) a pos) (mUn (dTbl tbl) ma) := by
  obtain ⟨A, e, ht⟩ := T
  subst hm; subst hK; subst hw
  refine PE.imp (pe_ix ix_kdict (pe_glob hg e (show RelV (.ref A) (.ref A) from rfl) hdb) he hs) fun σ H Q h => ?_
  obtain ⟨B, n, ρ, Q0, W0, R, hm, hq, hw⟩ := h
  refine rd_i (m := n) R hm (fun y v H1 h1 e1 R1 r1 => ?_) hw
  cases r1 with
  | str z =>
    obtain ⟨d, h2, h3⟩ := h1
    obtain ⟨u, k, r⟩ := ht z d h2
    exact ⟨A, z, u, rfl, rfl, k, hq d u H1 h3 e1 R1.ok.src (r _ _ _)⟩
  | _ => exact h1.elim
/-- xs[::-1] of a list -/
def mRevL (a : ME) : MA := fun ρ Q W => a ρ (fun x => asL x fun xs => Q xs.reverse) W
@[simp] theorem mRevL_eq (a : ME) (ρ : Rho) (Q : List D → Prop) (W : XKD) : mRevL a ρ Q W = (a ρ (fun x => asL x fun xs => Q xs.reverse) W) := Eq.trans rfl rfl
theorem cl_revL {k : Nat} {p1 p2 p3 : Pos} (hK : f.g.K = X.K) (he : CE f X W ca a ma) : CL f X W ca (.Subscript a (.Slice none none (some (.UnaryOp .USub (.Constant (.int 1) k p1) p2)) p3) pos) (mRevL ma) := PE.imp (pe_revL he) fun σ H Q h => by
  obtain ⟨B, n, ρ, Q0, W0, R, hm, hq, hw⟩ := h
  refine rd_i (m := n) R hm (fun x v H1 h1 e1 R1 r1 => ?_) hw
  cases r1 with
  | @lst _ vs _ ha nb rs =>
    refine ⟨_, _, rfl, .inl (.inl ha), fun p hp => ?_⟩
    have gw : Gw H1 (upd H1 p (.lst vs.reverse)) := Gw.new hp
    have hp0 : H p = none := by
      cases z : H p with
      | none => rfl
      | some o =>
        by_cases hs : InS f.g p
        · exact absurd hp (R1.ok.dom p (R1.ok.inB hs))
        · rw [e1 p o hs z] at hp; cases hp
    exact hq _ _ _ _ h1 (e1.trans gw.kp) (gw.src R1.ok.src) hp0 upd_same ((rs.reverse.avoid hp).grow gw)
  | _ => exact h1.elim
theorem ce_revL {k : Nat} {p1 p2 p3 : Pos} (hK : f.g.K = X.K) (he : CE f X W ca a ma) : CE f X W ca (.Subscript a (.Slice none none (some (.UnaryOp .USub (.Constant (.int 1) k p1) p2)) p3) pos) (mFrz (mRevL ma)) := ce_frz (cl_revL hK he)
end
end Hm
set_option Elab.async false
set_option linter.all false
set_option maxRecDepth 100000
set_option maxHeartbeats 2000000
namespace Hm
open PySem L2

/-! ### all, any, max, min, sorted of a list; list(x), tuple(x) -/
def dAll : List D → DK → Prop
  | [.lst xs], Q => ∃ bs : List Bool, xs = bs.map D.bl ∧ Q (.bl (bs.all id))
  | _, _ => False
def dAny : List D → DK → Prop
  | [.lst xs], Q => ∃ bs : List Bool, xs = bs.map D.bl ∧ Q (.bl (bs.any id))
  | _, _ => False
def dMaxL : List D → DK → Prop
  | [.lst xs], Q => ∃ ns : List Int, xs = ns.map D.int ∧ 0 < ns.length ∧ ∀ m, m ∈ ns → (∀ y, y ∈ ns → y ≤ m) → Q (.int m)
  | _, _ => False
def dMinL : List D → DK → Prop
  | [.lst xs], Q => ∃ ns : List Int, xs = ns.map D.int ∧ 0 < ns.length ∧ ∀ m, m ∈ ns → (∀ y, y ∈ ns → m ≤ y) → Q (.int m)
  | _, _ => False
def dSum : List D → DK → Prop
  | [.lst xs], Q => ∃ ns : List Int, xs = ns.map D.int ∧ Q (.int ns.sum)
  | _, _ => False
def dSorted : List D → DK → Prop
  | [.lst xs], Q => ∃ ns : List Int, xs = ns.map D.int ∧ ∀ ns' : List Int, ns'.Perm ns → ns'.Pairwise (· ≤ ·) → Q (.lst (ns'.map D.int))
  | _, _ => False
def dTuple : List D → DK → Prop
  | [.lst ys], Q => Q (.tup ys)
  | [.tup ys], Q => Q (.tup ys)
  | _, _ => False
@[simp] theorem dAll_eq {xs : List D} {Q : DK} : dAll [.lst xs] Q = (∃ bs : List Bool, xs = bs.map D.bl ∧ Q (.bl (bs.all id))) := Eq.trans rfl rfl
@[simp] theorem dAny_eq {xs : List D} {Q : DK} : dAny [.lst xs] Q = (∃ bs : List Bool, xs = bs.map D.bl ∧ Q (.bl (bs.any id))) := Eq.trans rfl rfl
@[simp] theorem dMaxL_eq {xs : List D} {Q : DK} : dMaxL [.lst xs] Q = (∃ ns : List Int, xs = ns.map D.int ∧ 0 < ns.length ∧ ∀ m, m ∈ ns → (∀ y, y ∈ ns → y ≤ m) → Q (.int m)) := Eq.trans rfl rfl
@[simp] theorem dMinL_eq {xs : List D} {Q : DK} : dMinL [.lst xs] Q = (∃ ns : List Int, xs = ns.map D.int ∧ 0 < ns.length ∧ ∀ m, m ∈ ns → (∀ y, y ∈ ns → m ≤ y) → Q (.int m)) := Eq.trans rfl rfl
@[simp] theorem dSum_eq {xs : List D} {Q : DK} : dSum [.lst xs] Q = (∃ ns : List Int, xs = ns.map D.int ∧ Q (.int ns.sum)) := Eq.trans rfl rfl
@[simp] theorem dSorted_eq {xs : List D} {Q : DK} : dSorted [.lst xs] Q = (∃ ns : List Int, xs = ns.map D.int ∧ ∀ ns' : List Int, ns'.Perm ns → ns'.Pairwise (· ≤ ·) → Q (.lst (ns'.map D.int))) := Eq.trans rfl rfl
@[simp] theorem dTuple_l {ys : List D} {Q : DK} : dTuple [.lst ys] Q = Q (.tup ys) := Eq.trans rfl rfl
@[simp] theorem dTuple_t {ys : List D} {Q : DK} : dTuple [.tup ys] Q = Q (.tup ys) := Eq.trans rfl rfl

section
variable {g : Gc} {B : Addr → Prop} {H : Hp}
theorem Reps.bls : ∀ {bs : List Bool} {vs : List V}, Reps g B H vs (bs.map D.bl) → vs = bs.map V.bl
  | [], _, r => by cases r; rfl
  | b :: bs, _, r => by
    cases r with
    | cons r1 r2 => cases r1; rw [Reps.bls r2]; rfl
theorem Reps.intsOf : ∀ {bs : List Int} {vs : List V}, Reps g B H vs (bs.map D.int) → vs = bs.map V.int
  | [], _, r => by cases r; rfl
  | b :: bs, _, r => by
    cases r with
    | cons r1 r2 => cases r1; rw [Reps.intsOf r2]; rfl
theorem Reps.strsOf : ∀ {bs : List Str} {vs : List V}, Reps g B H vs (bs.map D.str) → vs = bs.map V.str
  | [], _, r => by cases r; rfl
  | b :: bs, _, r => by
    cases r with
    | cons r1 r2 => cases r1; rw [Reps.strsOf r2]; rfl
theorem Reps.strs : ∀ (ns : List Str), Reps g B H (ns.map V.str) (ns.map D.str)
  | [] => .nil
  | _ :: r => .cons (.str _) (Reps.strs r)
/-- one argument, a list -/
theorem Reps.one_lst {vs : List V} {xs : List D} (r : Reps g B H vs [.lst xs]) : ∃ a ys, vs = [.ref a] ∧ H a = some (.lst ys) ∧ ¬ B a ∧ Reps g B H ys xs := by
  cases r with
  | cons r t =>
    cases t
    cases r with
    | lst h n q => exact ⟨_, _, rfl, h, n, q⟩
theorem Reps.one_tup {vs : List V} {xs : List D} (r : Reps g B H vs [.tup xs]) : ∃ a ys, vs = [.ref a] ∧ SqT g.K H a ys ∧ Rep g B H (.ref a) (.tup xs) ∧ Reps g B H ys xs := by
  cases r with
  | cons r t =>
    cases t
    obtain ⟨a, ys, rfl, h, q⟩ := r.tupOf
    exact ⟨a, ys, rfl, h, r, q⟩
end
section
variable {K : PySem.W.Frag}
theorem cd_all : CallD K (rAll K) dAll := cd_plain fun g B H vs xs Q0 Q hK rx h k => by
  subst hK
  unfold dAll at h
  split at h
  · obtain ⟨bs, rfl, q⟩ := h
    obtain ⟨a, ys, rfl, h1, _, r⟩ := rx.one_lst
    have := r.bls
    subst this
    exact ⟨a, bs, rfl, .inl (.inl h1), k _ _ q (.bl _)⟩
  · exact h.elim
theorem cd_any : CallD K (rAny K) dAny := cd_plain fun g B H vs xs Q0 Q hK rx h k => by
  subst hK
  unfold dAny at h
  split at h
  · obtain ⟨bs, rfl, q⟩ := h
    obtain ⟨a, ys, rfl, h1, _, r⟩ := rx.one_lst
    have := r.bls
    subst this
    exact ⟨a, bs, rfl, .inl (.inl h1), k _ _ q (.bl _)⟩
  · exact h.elim
theorem cd_maxL : CallD K (rMax K) dMaxL := cd_plain fun g B H vs xs Q0 Q hK rx h k => by
  subst hK
  unfold dMaxL at h
  split at h
  · obtain ⟨bs, rfl, hl, q⟩ := h
    obtain ⟨a, ys, rfl, h1, _, r⟩ := rx.one_lst
    have := r.intsOf
    subst this
    exact ⟨a, bs, rfl, .inl (.inl h1), hl, fun m hm hy => k _ _ (q m hm hy) (.int _)⟩
  · exact h.elim
theorem cd_minL : CallD K (rMin K) dMinL := cd_plain fun g B H vs xs Q0 Q hK rx h k => by
  subst hK
  unfold dMinL at h
  split at h
  · obtain ⟨bs, rfl, hl, q⟩ := h
    obtain ⟨a, ys, rfl, h1, _, r⟩ := rx.one_lst
    have := r.intsOf
    subst this
    exact ⟨a, bs, rfl, .inl (.inl h1), hl, fun m hm hy => k _ _ (q m hm hy) (.int _)⟩
  · exact h.elim
theorem cd_sum : CallD K (rSum K) dSum := cd_plain fun g B H vs xs Q0 Q hK rx h k => by
  subst hK
  unfold dSum at h
  split at h
  · obtain ⟨bs, rfl, q⟩ := h
    obtain ⟨a, ys, rfl, h1, _, r⟩ := rx.one_lst
    have := r.intsOf
    subst this
    exact ⟨a, bs, rfl, .inl (.inl h1), k _ _ q (.int _)⟩
  · exact h.elim
theorem cd_sorted : CallD K (rSortedI K) dSorted := fun g B H vs xs Q0 Q hK dom rx h k => by
  subst hK
  unfold dSorted at h
  split at h
  · obtain ⟨bs, rfl, q⟩ := h
    obtain ⟨a, ys, rfl, h1, _, r⟩ := rx.one_lst
    have := r.intsOf
    subst this
    refine ⟨a, bs, rfl, .inl (.inl h1), fun ns' p p1 p2 hp => ?_⟩
    exact k _ _ _ (q ns' p1 p2) (Gw.new hp) (.lst upd_same (nB dom hp) (Reps.ints _))
  · exact h.elim
abbrev rListOf (K : PySem.W.Frag) : List V → Hp → VK → Prop := fun xs H Q => ∃ p ys, xs = [.ref p] ∧ (SqL K H p ys ∨ SqT K H p ys) ∧ ∀ l, H l = none → Q (.ref l) (upd H l (.lst ys))
theorem cd_list : CallD K (rListOf K) dList := fun g B H vs xs Q0 Q hK dom rx h k => by
  subst hK
  unfold dList at h
  split at h
  · obtain ⟨a, ys, rfl, h1, _, r⟩ := rx.one_lst
    refine ⟨a, ys, rfl, .inl (.inl (.inl h1)), fun p hp => ?_⟩
    exact k _ _ _ h (Gw.new hp) (.lst upd_same (nB dom hp) (r.grow (Gw.new hp)))
  · obtain ⟨a, ys, rfl, h1, _, r⟩ := rx.one_tup
    refine ⟨a, ys, rfl, .inr h1, fun p hp => ?_⟩
    exact k _ _ _ h (Gw.new hp) (.lst upd_same (nB dom hp) (r.grow (Gw.new hp)))
  · exact h.elim
theorem cd_tuple : CallD K (fun xs H Q => ∃ p ys, xs = [.ref p] ∧ ((SqL K H p ys ∧ ∀ l, H l = none → Q (.ref l) (upd H l (.tup ys))) ∨ (SqT K H p ys ∧ Q (.ref p) H))) dTuple := fun g B H vs xs Q0 Q hK dom rx h k => by
  subst hK
  unfold dTuple at h
  split at h
  · obtain ⟨a, ys, rfl, h1, _, r⟩ := rx.one_lst
    refine ⟨a, ys, rfl, .inl ⟨.inl (.inl h1), fun p hp => ?_⟩⟩
    exact k _ _ _ h (Gw.new hp) (.tup upd_same (nB dom hp) (r.grow (Gw.new hp)))
  · obtain ⟨a, ys, rfl, h1, r0, r⟩ := rx.one_tup
    exact ⟨a, ys, rfl, .inr ⟨h1, k _ _ H h (Gw.refl H) r0⟩⟩
  · exact h.elim
end
end Hm
set_option Elab.async false
set_option linter.all false
set_option maxRecDepth 100000
set_option maxHeartbeats 2000000
namespace Hm
open PySem L2 PySem.Spec PyProof.Rows

/-! ### try: .. except x as n: m = n, where x takes the errors that s tells; others are not there -/
def mTryS (s : Str → Bool) (i j : Nat) (b : MS) : MS := fun ρ E => b ρ { E with ex := fun ρ' x => s x.c = true ∧ E.nx (((ρ'.set i .un).set j (.dat (.exc x.c x.fs))).set i .un) }
@[simp] theorem mTryS_eq (s : Str → Bool) (i j : Nat) (b : MS) (ρ : Rho) (E : DEnds) : mTryS s i j b ρ E = b ρ { E with ex := fun ρ' x => s x.c = true ∧ E.nx (((ρ'.set i .un).set j (.dat (.exc x.c x.fs))).set i .un) } := Eq.trans rfl rfl
section
variable {f : FrC} {X : Cx} {W : WX} {ca cb cc : Nat} {a b c : Expr} {es : List Expr} {ma mb mc : ME} {mt : MT} {mas : MA} {pos : Pos} {ms : MS}
theorem cs_tryS {s : Str → Bool} {i j : Nat} {x n m : Str} {CH : Addr} {np p1 p2 p3 pos' : Pos} {body : List Stmt} {ct : Str → Option Addr} {K : PySem.W.Frag} (hK : f.g.K = X.K) (hct : f.g.ct = ct) (hKK : X.K = K)
    (hall : ∀ c C, ct c = some C → s c = true → PySem.W.exmOne K (.ref C) (.ref CH) = some true)
    (hex : X.ex = []) (hst : X.stack = X.env :: X.outer) (hfm : X.env.frame = some X.env.locals) (hND : X.N.Nodup) (hi : X.N[i]? = some n) (hj : X.N[j]? = some m) (hln : X.env.kindOf n = some .local) (hlm : X.env.kindOf m = some .local) (hg : Gl X x) (gH : X.mg x = some (.ref CH)) (tk : Takes X W)
    (hb : ∀ (W : WX) (pn : List (Addr × Obj)) (xe : Value → Shared → Prop), Takes (X.tr pn xe) W → PassesOwn (model X.prog X.w) X.A X.env xe → CB f (X.tr pn xe) W ca body ms)
    (hij : i ≠ j := by decide) (hd1 : (n == ("__debug__" : Str)) = false := by decide) (hd2 : (n == ("__classdict__" : Str)) = false := by decide) (hdb : (x == ("__debug__" : Str)) = false := by decide)
    (hs : swapsWithSole [.Name m p1] (.Name n p2) p3.line X.env = pure false := by rfl) (hw : swappedStores [.Name m p1] (.Name n p2) X.env = pure none := by rfl) :
    CS f X W ca (.Try body [.ExceptHandler (some (.Name x np)) (some n) [.Assign [.Name m p1] (.Name n p2) p3] pos'] [] [] pos) (mTryS s i j ms) := by
  refine PS.imp (ps_try_keep (i := i) (ts := fun _ _ _ => tAsg (tVar i) (gName j)) hex hst hfm hND hi hln ⟨hg, hdb, .inl gH⟩ tk (tb := fun W => RS f W ca ms) hb (fun a oe cls d pn => pss_one (ps_asg (pe_var hi (.inl hln) hd1 hd2) (pg_name (i := j) hND hj (.inl hlm) (.inr hlm)) hs hw rfl))) fun De σ H h => ?_
  obtain ⟨B, n, ρ, E, R, hm, hn, hr, hbk, hcn, hx⟩ := h
  refine ⟨B, n, ρ, _, R, hm, hn, hr, hbk, hcn, fun B' y cls dd σ' H' ρ' q R' er => ?_⟩
  obtain ⟨C, e1, e2, e3⟩ := er
  subst e2
  refine ⟨true, by rw [hKK]; exact hall _ _ (hct ▸ e1) q.1, fun _ a na hlen => ?_, fun z => nomatch z⟩
  refine ⟨.ref a, by rw [List.getElem?_set_self hlen], ?_⟩
  have nB : ¬ B' a := fun z => R'.ok.dom a z na
  have gw : Gw H' (upd H' a (ExO (.ref C) a dd)) := Gw.new na
  refine hn B' _ _ _ q.2 ((Rel.set (d := .exc y.c y.fs) (Rel.setUn (i := i) (o := some (.ref a)) (R'.kp gw.kp (gw.src R'.ok.src))) ?_).setUn)
  rcases e3 with ⟨rfl, e4⟩ | ⟨d, kvs, rfl, e4, e5, e6, e7⟩
  · rw [e4]; exact .exc0 e1 upd_same nB
  · exact .exc1 e1 upd_same nB (gw _ _ e4) e5 (e6.move fun b o h nb => ⟨gw _ _ h, nb⟩) e7

/-! ### an own list, looked at: the answer is a plain one -/
def own? : Option Sl → (List D → Prop) → Prop
  | some (.own ds), Q => Q ds
  | _, _ => False
@[simp] theorem own?_eq (ds : List D) (Q : List D → Prop) : own? (some (.own ds)) Q = Q ds := Eq.trans rfl rfl
theorem own?_is {o : Option Sl} {Q : List D → Prop} (h : own? o Q) : ∃ ds, o = some (.own ds) ∧ Q ds := by
  unfold own? at h
  split at h
  · exact ⟨_, rfl, h⟩
  · exact h.elim
theorem Rep.any {g : Gc} {B B' : Addr → Prop} {H H' : Hp} {v : V} {d : D} (r : Rep g B H v d) (h : d.flat = true) : Rep g B' H' v d := by
  cases r with
  | non => exact .non
  | bl b => exact .bl b
  | int i => exact .int i
  | str s => exact .str s
  | _ => cases h
/-- the own list at i as a datum while e is looked at -/
def thaw? : Option Sl → (List D → Prop) → Prop → Prop
  | some (.own ds), A, _ => A ds
  | _, _, Z => Z
@[simp] theorem thaw?_own (ds : List D) (A : List D → Prop) (Z : Prop) : thaw? (some (.own ds)) A Z = A ds := Eq.trans rfl rfl
@[simp] theorem thaw?_dat (d : D) (A : List D → Prop) (Z : Prop) : thaw? (some (.dat d)) A Z = Z := Eq.trans rfl rfl
theorem thaw?_is {o : Option Sl} {A : List D → Prop} {Z : Prop} (h : thaw? o A Z) : (∃ ds, o = some (.own ds) ∧ A ds) ∨ Z := by
  unfold thaw? at h
  split at h
  · exact .inl ⟨_, rfl, h⟩
  · exact .inr h
def mThaw (i : Nat) (m : ME) : ME := fun ρ Q W => thaw? ρ[i]? (fun ds => m (ρ.set i (.dat (.lst ds))) (fun d => d.flat = true ∧ Q d) (fun x => x.fs = [] ∧ W x)) (m ρ Q W)
@[simp] theorem mThaw_eq (i : Nat) (m : ME) (ρ : Rho) (Q : DK) (W : XKD) : mThaw i m ρ Q W = (thaw? ρ[i]? (fun ds => m (ρ.set i (.dat (.lst ds))) (fun d => d.flat = true ∧ Q d) (fun x => x.fs = [] ∧ W x)) (m ρ Q W)) := Eq.trans rfl rfl
def mThawT (i : Nat) (m : MT) : MT := fun ρ Q W => thaw? ρ[i]? (fun ds => m (ρ.set i (.dat (.lst ds))) Q (fun x => x.fs = [] ∧ W x)) (m ρ Q W)
@[simp] theorem mThawT_eq (i : Nat) (m : MT) (ρ : Rho) (Q : Bool → Prop) (W : XKD) : mThawT i m ρ Q W = (thaw? ρ[i]? (fun ds => m (ρ.set i (.dat (.lst ds))) Q (fun x => x.fs = [] ∧ W x)) (m ρ Q W)) := Eq.trans rfl rfl
theorem PE.or {X : Cx} {e : Expr} {t t' : TE} (h : PE X e t) (h' : PE X e t') : PE X e (fun σ H Q => t σ H Q ∨ t' σ H Q) := ⟨fun pins s σ H Q I q => q.elim (h.run pins s σ H Q I) (h'.run pins s σ H Q I)⟩
theorem ErrAt.any {g : Gc} {B B' : Addr → Prop} {H H' : Hp} {cls : Value} {dd : Option Addr} {x : Err} (r : ErrAt g B H cls dd x) (h : x.fs = []) : ErrAt g B' H' cls dd x := by
  obtain ⟨C, h1, h2, h3⟩ := r
  refine ⟨C, h1, h2, ?_⟩
  rcases h3 with h3 | ⟨d, kvs, e1, e2, e3, e4, e5⟩
  · exact .inl h3
  · exact absurd h e5
theorem ce_thaw (i : Nat) {e : Expr} (h : CE f X W ca e ma) : CE f X W ca e (mThaw i ma) := PE.imp h fun σ H Q h => by
  obtain ⟨B, n, ρ, Q0, W0, R, hm, hq, hw⟩ := h
  rcases thaw?_is hm with ⟨ds, e, hm⟩ | hm
  · obtain ⟨B', R'⟩ := R.frz e
    exact ⟨B', n, _, _, _, R', hm, fun d v H' q e s r => hq d v H' q.2 e s (r.any q.1), fun x cls dd H' q e s er => hw x cls dd H' q.2 e s (er.any q.1)⟩
  · exact ⟨B, n, ρ, _, _, R, hm, hq, hw⟩
theorem ct_thaw (i : Nat) {e : Expr} (h : CT f X W ca e mt) : CT f X W ca e (mThawT i mt) := PT.imp h fun σ H Q h => by
  obtain ⟨B, n, ρ, Q0, W0, R, hm, hq, hw⟩ := h
  rcases thaw?_is hm with ⟨ds, e, hm⟩ | hm
  · obtain ⟨B', R'⟩ := R.frz e
    exact ⟨B', n, _, _, _, R', hm, fun b H' q e s => hq b H' q e s, fun x cls dd H' q e s er => hw x cls dd H' q.2 e s (er.any q.1)⟩
  · exact ⟨B, n, ρ, _, _, R, hm, hq, hw⟩
/-- own[k]: an item -/
def mOix (i : Nat) (k : ME) : ME := fun ρ Q W => thaw? ρ[i]? (fun ds => k ρ (fun x => dIx (.lst ds) x Q) W) (datOf ρ[i]? fun y => k ρ (fun x => dIx y x Q) W)
@[simp] theorem mOix_eq (i : Nat) (k : ME) (ρ : Rho) (Q : DK) (W : XKD) : mOix i k ρ Q W = (thaw? ρ[i]? (fun ds => k ρ (fun x => dIx (.lst ds) x Q) W) (datOf ρ[i]? fun y => k ρ (fun x => dIx y x Q) W)) := Eq.trans rfl rfl
theorem ce_oix {i : Nat} {x : Str} {px : Pos} (hK : f.g.K = X.K) (hk : CE f X W ca a ma) (hN : X.N[i]? = some x := by rfl) (hv : Vis X.env.scope x := by first | exact Or.inl rfl | exact Or.inr (Or.inl rfl) | exact Or.inr (Or.inr rfl)) (hd : (x == ("__debug__" : Str)) = false := by decide) (hcd : (x == ("__classdict__" : Str)) = false := by decide)
    (hs : PlainIx a := by exact fun _ _ => rfl) : CE f X W ca (.Subscript (.Name x px) a pos) (mOix i ma) := PE.imp (PE.or (pe_ix ix_seq (pe_var hN hv hd hcd) hk hs) (ce_ix hK ix_seq od_ix (ce_var i hN hv hd hcd) hk hs)) fun σ H Q h => by
  obtain ⟨B, n, ρ, Q0, W0, R, hm, hq, hw⟩ := h
  rcases thaw?_is hm with ⟨ds, e, hm⟩ | hm
  · obtain ⟨p, vs, es, hB, h0, hp, r⟩ := R.ownAt e
    refine .inl ⟨.ref p, es, ?_⟩
    refine rd_i (m := n) R hm (fun y v H1 h1 e1 R1 r1 => ?_) hw
    cases r1 with
    | int k =>
      obtain ⟨d, h2, h3⟩ := h1
      obtain ⟨v, ev, rv⟩ := (r.kp R.ok e1).atI h2
      exact .inl ⟨p, vs, k, v, rfl, rfl, .inl (.inl (e1 _ _ (R.ok.nS h0) hp)), ev, hq _ _ _ h3 e1 R1.ok.src rv⟩
    | _ => exact h1.elim
  · exact .inr ⟨B, n, ρ, Q0, W0, by rw [Nat.zero_add]; exact R, hm, hq, hw⟩
/-- own[k] = v -/
def mOset (i : Nat) (k v : ME) : MS := fun ρ E => own? ρ[i]? fun ds => v ρ (fun y => k ρ (fun x => asI x fun j => ∃ m : Nat, ixN ds.length j = some m ∧ E.nx (ρ.set i (.own (ds.set m y)))) (E.ex ρ)) (E.ex ρ)
@[simp] theorem mOset_eq (i : Nat) (k v : ME) (ρ : Rho) (E : DEnds) : mOset i k v ρ E = (own? ρ[i]? fun ds => v ρ (fun y => k ρ (fun x => asI x fun j => ∃ m : Nat, ixN ds.length j = some m ∧ E.nx (ρ.set i (.own (ds.set m y)))) (E.ex ρ)) (E.ex ρ)) := Eq.trans rfl rfl
theorem cs_oset {i : Nat} {x : Str} {px pos' : Pos} (hk : CE f X W ca a ma) (hv : CE f X W cb b mb) (hN : X.N[i]? = some x := by rfl) (hvi : Vis X.env.scope x := by first | exact Or.inl rfl | exact Or.inr (Or.inl rfl) | exact Or.inr (Or.inr rfl)) (hd : (x == ("__debug__" : Str)) = false := by decide) (hcd : (x == ("__classdict__" : Str)) = false := by decide)
    (hs : swapsWithSole [.Subscript (.Name x px) a pos'] b pos.line X.env = pure false := by rfl) (hw : swappedStores [.Subscript (.Name x px) a pos'] b X.env = pure none := by rfl)
    (ha : ∀ v, assign (.Subscript (.Name x px) a pos') X.env v = (do
      let ov ← holding [v] (eval (.Name x px) X.env)
      let iv ← holding [v, ov] (eval a X.env)
      standAt pos'
      holding [v, ov, iv] (setItem ov iv v)
      release [v, ov, iv] []) := by intro _; rfl) : CS f X W (cb + ca) (.Assign [.Subscript (.Name x px) a pos'] b pos) (mOset i ma mb) :=
  PS.imp (ps_asg hv (pg_sub (pe_var hN hvi hd hcd) hk set_list ha) hs hw rfl) fun De σ H h => by
    obtain ⟨B, n, ρ, E, R, hm, hn, hr, hb, hc, hx⟩ := h
    obtain ⟨ds, eo, hm⟩ := own?_is hm
    obtain ⟨p, vs, es, hB, h0, hp, r⟩ := R.ownAt eo
    refine rd_i (m := n + ca) (R.mono (by omega)) hm (fun y u H1 h1 e1 R1 r1 => ?_) fun x cls dd H' q e s er => hx B x cls dd σ H' ρ q (R.kp e (s.mono (by omega))) er
    refine ⟨.ref p, es, ?_⟩
    refine rd_i (m := n) R1 h1 (fun z w H2 h2 e2 R2 r2 => ?_) fun x cls dd H' q e s er => hx B x cls dd σ H' ρ q (R1.kp e s) er
    cases r2 with
    | int j =>
      obtain ⟨m, hm1, hm2⟩ := h2
      have hp2 : H2 p = some (.lst vs) := e2 _ _ (R.ok.nS h0) (e1 _ _ (R.ok.nS h0) hp)
      have rr := (r.kp R.ok e1).kp R1.ok e2
      exact ⟨p, vs, j, m, rfl, rfl, hp2, by rw [rr.length]; exact hm1, hn B σ _ _ hm2 (R2.putOwn eo es hB h0 (rr.set (r1.kp R1.ok e2) m))⟩
    | _ => exact h2.elim
end
end Hm
set_option Elab.async false
set_option linter.all false
set_option maxRecDepth 100000
set_option maxHeartbeats 2000000
namespace Hm
open PySem L2 PySem.Spec PyProof.Rows

/-! ### new lists by operators and calls -/
def mOpL (op : D → D → (List D → Prop) → Prop) (a b : ME) : MA := fun ρ Q W => a ρ (fun x => b ρ (fun y => op x y Q) W) W
@[simp] theorem mOpL_eq (op : D → D → (List D → Prop) → Prop) (a b : ME) (ρ : Rho) (Q : List D → Prop) (W : XKD) : mOpL op a b ρ Q W = (a ρ (fun x => b ρ (fun y => op x y Q) W) W) := Eq.trans rfl rfl
def mBltL (fn : List D → (List D → Prop) → Prop) (a : MA) : MA := fun ρ Q W => a ρ (fun xs => fn xs Q) W
@[simp] theorem mBltL_eq (fn : List D → (List D → Prop) → Prop) (a : MA) (ρ : Rho) (Q : List D → Prop) (W : XKD) : mBltL fn a ρ Q W = (a ρ (fun xs => fn xs Q) W) := Eq.trans rfl rfl
def OpDL (K : PySem.W.Frag) (r : R2) (op : D → D → (List D → Prop) → Prop) : Prop := ∀ (g : Gc) (B : Addr → Prop) (H : Hp) (vx vy : V) (x y : D) (Q0 : List D → Prop) (Q : VK), g.K = K → (∀ a, B a → H a ≠ none) → Rep g B H vx x → Rep g B H vy y → op x y Q0 →
  (∀ ds p vs H', Q0 ds → Gw H H' → H p = none → H' p = some (.lst vs) → Reps g (fun a => B a ∨ a = p) H' vs ds → Q (.ref p) H') → r vx vy H Q
def CallDL (K : PySem.W.Frag) (r : List V → Hp → VK → Prop) (op : List D → (List D → Prop) → Prop) : Prop := ∀ (g : Gc) (B : Addr → Prop) (H : Hp) (vs : List V) (xs : List D) (Q0 : List D → Prop) (Q : VK), g.K = K → (∀ a, B a → H a ≠ none) → Reps g B H vs xs → op xs Q0 →
  (∀ ds p vs H', Q0 ds → Gw H H' → H p = none → H' p = some (.lst vs) → Reps g (fun a => B a ∨ a = p) H' vs ds → Q (.ref p) H') → r vs H Q
section
variable {f : FrC} {X : Cx} {W : WX} {ca cb cc : Nat} {a b c : Expr} {es : List Expr} {ma mb mc : ME} {mt : MT} {mas : MA} {pos : Pos} {ms : MS}
theorem Kp.none {g : Gc} {B : Addr → Prop} {H H1 : Hp} {p : Addr} (e1 : Kp g H H1) (dom : ∀ a, B a → H1 a ≠ none) (inB : ∀ a, InS g a → B a) (hp : H1 p = none) : H p = none := by
  cases z : H p with
  | none => rfl
  | some o =>
    by_cases hs : InS g p
    · exact absurd hp (dom p (inB p hs))
    · rw [e1 p o hs z] at hp; cases hp
theorem cl_op {o : Operator} {op : D → D → (List D → Prop) → Prop} {r : R2} (hK : f.g.K = X.K) (ho : OpR X (binaryOp o) r) (hd : OpDL X.K r op) (ha : CE f X W ca a ma) (hb : CE f X W cb b mb) : CL f X W (ca + cb) (.BinOp a o b pos) (mOpL op ma mb) :=
  PE.imp (pe_op ho ha hb) fun σ H Q h => by
    obtain ⟨B, n, ρ, Q0, W0, R, hm, hq, hw⟩ := h
    refine rd_i (m := n + cb) (R.mono (by omega)) hm (fun x vx H1 h1 e1 R1 r1 => ?_) (fun x cls dd H' q e s er => hw x cls dd H' q e (s.mono (by omega)) er)
    refine rd_i (m := n) R1 h1 (fun y vy H2 h2 e2 R2 r2 => ?_) (fun x cls dd H' q e s er => hw x cls dd H' q (e1.trans e) s er)
    exact hd f.g B H2 vx vy x y Q0 Q hK R2.ok.dom (r1.kp R1.ok e2) r2 h2 fun ds p vs H' q gw hp h1 r => hq ds p vs H' q ((e1.trans e2).trans gw.kp) (gw.src R2.ok.src) ((e1.trans e2).none R2.ok.dom (fun a h => R2.ok.inB h) hp) h1 r
theorem cl_blt {id : String} {x : Str} {p : Pos} {r : List V → Hp → VK → Prop} {op : List D → (List D → Prop) → Prop} (hK : f.g.K = X.K) (hc : CallR X (.builtin id) r) (hd : CallDL X.K r op) (hg : Gl X x) (hm : X.mg x = none) (hv : bootBuiltins x = some (.builtin id)) (ha : CA f X W ca (a :: es) mas)
    (hn : x ≠ "__name__" := by decide) (hdb : (x == ("__debug__" : Str)) = false := by decide)
    (he : starEach (a :: es) X.env = (false, eval a X.env) :: starEach es X.env := by rfl) (hpl : (backTo pos (starEach es X.env)).any (·.1) = false := by rfl) : CL f X W ca (.Call (.Name x p) (a :: es) [] pos) (mBltL op mas) :=
  PE.imp (pe_callB hc hg hm hv ha hn hdb he hpl) fun σ H Q h => by
    obtain ⟨B, n, ρ, Q0, W0, R, hm, hq, hw⟩ := h
    refine ra_i (m := n) R hm (fun ds vs H1 h1 e1 R1 r1 => ?_) hw
    exact hd f.g B H1 vs ds Q0 Q hK R1.ok.dom r1 h1 fun ds p vs H' q gw hp h1 r => hq ds p vs H' q (e1.trans gw.kp) (gw.src R1.ok.src) (e1.none R1.ok.dom (fun a h => R1.ok.inB h) hp) h1 r
theorem cl_blty {T : String} {x : Str} {p : Pos} {r : List V → Hp → VK → Prop} {op : List D → (List D → Prop) → Prop} (hK : f.g.K = X.K) (hc : CallR X (.type T) r) (hd : CallDL X.K r op) (hg : Gl X x) (hm : X.mg x = none) (hv : bootBuiltins x = some (.type T)) (ha : CA f X W ca (a :: es) mas)
    (hn : x ≠ "__name__" := by decide) (hdb : (x == ("__debug__" : Str)) = false := by decide)
    (he : starEach (a :: es) X.env = (false, eval a X.env) :: starEach es X.env := by rfl) (hpl : (backTo pos (starEach es X.env)).any (·.1) = false := by rfl) : CL f X W ca (.Call (.Name x p) (a :: es) [] pos) (mBltL op mas) :=
  PE.imp (pe_callTy hc hg hm hv ha hn hdb he hpl) fun σ H Q h => by
    obtain ⟨B, n, ρ, Q0, W0, R, hm, hq, hw⟩ := h
    refine ra_i (m := n) R hm (fun ds vs H1 h1 e1 R1 r1 => ?_) hw
    exact hd f.g B H1 vs ds Q0 Q hK R1.ok.dom r1 h1 fun ds p vs H' q gw hp h1 r => hq ds p vs H' q (e1.trans gw.kp) (gw.src R1.ok.src) (e1.none R1.ok.dom (fun a h => R1.ok.inB h) hp) h1 r
end
def lCat : D → D → (List D → Prop) → Prop
  | .lst a, .lst b, Q => a.length + b.length ≤ sizeLine ∧ Q (a ++ b)
  | _, _, _ => False
@[simp] theorem lCat_eq {a b : List D} {Q : List D → Prop} : lCat (.lst a) (.lst b) Q = (a.length + b.length ≤ sizeLine ∧ Q (a ++ b)) := Eq.trans rfl rfl
def lRep : D → D → (List D → Prop) → Prop
  | .lst a, .int k, Q => (-(2 ^ 63) ≤ k ∧ k < 2 ^ 63 ∧ a.length * k.toNat ≤ sizeLine) ∧ Q (List.replicate k.toNat a).flatten
  | _, _, _ => False
@[simp] theorem lRep_eq {a : List D} {k : Int} {Q : List D → Prop} : lRep (.lst a) (.int k) Q = ((-(2 ^ 63) ≤ k ∧ k < 2 ^ 63 ∧ a.length * k.toNat ≤ sizeLine) ∧ Q (List.replicate k.toNat a).flatten) := Eq.trans rfl rfl
def lList : List D → (List D → Prop) → Prop
  | [.lst ys], Q => Q ys
  | [.tup ys], Q => Q ys
  | _, _ => False
@[simp] theorem lList_l {ys : List D} {Q : List D → Prop} : lList [.lst ys] Q = Q ys := Eq.trans rfl rfl
@[simp] theorem lList_t {ys : List D} {Q : List D → Prop} : lList [.tup ys] Q = Q ys := Eq.trans rfl rfl
section
variable {K : PySem.W.Frag}
theorem ol_cat : OpDL K (rAddD K) lCat := fun g B H vx vy x y Q0 Q hK dom rx ry h k => by
  subst hK
  unfold lCat at h
  split at h
  · cases rx with
    | lst h1 n1 r1 =>
      cases ry with
      | lst h2 n2 r2 =>
        refine .inr (.inr (.inl ⟨_, _, _, _, rfl, rfl, h1, h2, by rw [r1.length, r2.length]; exact h.1, fun p hp => ?_⟩))
        exact k _ _ _ _ h.2 (Gw.new hp) hp upd_same (((r1.append r2).avoid hp).grow (Gw.new hp))
  · exact h.elim
theorem ol_rep : OpDL K rMulD lRep := fun g B H vx vy x y Q0 Q hK dom rx ry h k => by
  unfold lRep at h
  split at h
  · cases rx with
    | lst h1 n1 r1 =>
      cases ry with
      | int j =>
        refine .inr ⟨_, _, _, rfl, rfl, h1, h.1.1, h.1.2.1, by rw [r1.length]; exact h.1.2.2, fun p hp => ?_⟩
        exact k _ _ _ _ h.2 (Gw.new hp) hp upd_same (((r1.flat _).avoid hp).grow (Gw.new hp))
  · exact h.elim
theorem ol_list : CallDL K (rListOf K) lList := fun g B H vs xs Q0 Q hK dom rx h k => by
  subst hK
  unfold lList at h
  split at h
  · obtain ⟨a, ys, rfl, h1, _, r⟩ := rx.one_lst
    refine ⟨a, ys, rfl, .inl (.inl (.inl h1)), fun p hp => ?_⟩
    exact k _ _ _ _ h (Gw.new hp) hp upd_same ((r.avoid hp).grow (Gw.new hp))
  · obtain ⟨a, ys, rfl, h1, _, r⟩ := rx.one_tup
    refine ⟨a, ys, rfl, .inr h1, fun p hp => ?_⟩
    exact k _ _ _ _ h (Gw.new hp) hp upd_same ((r.avoid hp).grow (Gw.new hp))
  · exact h.elim
end
/-! xs[a:b], a new list -/
def mSlL (e : ME) (lo hi : MO) : MA := fun ρ Q W => e ρ (fun x => lo ρ (fun l => hi ρ (fun u => asL x fun xs => Q (cutD xs l u)) W) W) W
@[simp] theorem mSlL_eq (e : ME) (lo hi : MO) (ρ : Rho) (Q : List D → Prop) (W : XKD) : mSlL e lo hi ρ Q W = (e ρ (fun x => lo ρ (fun l => hi ρ (fun u => asL x fun xs => Q (cutD xs l u)) W) W) W) := Eq.trans rfl rfl
section
variable {f : FrC} {X : Cx} {W : WX} {ca cb cc : Nat} {a b c : Expr} {es : List Expr} {ma mb mc : ME} {mt : MT} {mas : MA} {pos : Pos} {ms : MS}
theorem cl_sl {lo hi : Option Expr} {ml mh : MO} {p2 : Pos} (hK : f.g.K = X.K) (ha : CE f X W ca a ma) (hl : PO X lo (RO f W cb ml)) (hh : PO X hi (RO f W cc mh)) : CL f X W (ca + cb + cc) (.Subscript a (.Slice lo hi none p2) pos) (mSlL ma ml mh) :=
  PE.imp (pe_slice sl_list ha hl hh) fun σ H Q h => by
    obtain ⟨B, n, ρ, Q0, W0, R, hm, hq, hw⟩ := h
    refine rd_i (m := n + cc + cb) (R.mono (by omega)) hm (fun x v H1 h1 e1 R1 r1 => ?_) (fun x cls dd H' q e s er => hw x cls dd H' q e (s.mono (by omega)) er)
    refine ⟨B, n + cc, ρ, _, W0, R1, h1, fun l H2 h2 e2 s2 => ?_, fun x cls dd H' q e s er => hw x cls dd H' q (e1.trans e) (s.mono (by omega)) er⟩
    have R2 : Rel f B σ H2 ρ (n + cc) := R1.kp e2 s2
    refine ⟨B, n, ρ, _, W0, R2, h2, fun u H3 h3 e3 s3 => ?_, fun x cls dd H' q e s er => hw x cls dd H' q ((e1.trans e2).trans e) s er⟩
    have R3 : Rel f B σ H3 ρ n := R2.kp e3 s3
    have r3 : Rep f.g B H3 v x := (r1.kp R1.ok e2).kp R2.ok e3
    have e4 := (e1.trans e2).trans e3
    cases r3 with
    | lst ha nb rs =>
      refine ⟨_, _, rfl, .inl (.inl ha), fun p hp => ?_⟩
      exact hq _ _ _ _ h3 (e4.trans (Gw.new hp).kp) ((Gw.new hp).src R3.ok.src) (e4.none R3.ok.dom (fun a h => R3.ok.inB h) hp) upd_same (((cut_reps rs l u).avoid hp).grow (Gw.new hp))
    | _ => exact h3.elim
end
end Hm
set_option Elab.async false
set_option linter.all false
set_option maxRecDepth 100000
set_option maxHeartbeats 2000000
namespace Hm
open PySem L2 PySem.Spec PyProof.Rows
section
variable {f : FrC} {X : Cx} {W : WX} {ca cb cc ct ce : Nat} {a b c : Expr} {elt tg : Expr} {ifs : List Expr} {es : List Expr} {ma mb mc me : ME} {mt : MT} {mas : MA} {pos : Pos} {ms : MS} {scope : Scope} {own : List (Str × Nat)} {t : TG} {g : MG} {is : List Nat}
/-- y = [e for ..], y an own list from there on -/
theorem cs_asgLcO {iter : Expr} {mm : MA} {i : Nat} {y : Str} {py spos : Pos} (hc : X.calm = true) (hN : X.N.Nodup) (P : LcP f X scope own tg ifs elt ct ce t is g mt me) (I : LcI f X W tg iter ct ce t g mt me own cc mm)
    (hsw : swapsWith (.ListComp elt [⟨tg, iter, ifs, 0⟩] scope pos) (some (.Name y py)) spos.line X.env = pure true) (hy : X.N[i]? = some y := by rfl) (hyl : X.env.scope.names.lookup y = some .local := by rfl) (hs : ∀ x, foldedSetIterable iter X.env x = pure x := by intro _; rfl) :
    CS f X W cc (.Assign [.Name y py] (.ListComp elt [⟨tg, iter, ifs, 0⟩] scope pos) spos) (mAsgO i mm) := by
  obtain ⟨wi, hi, k⟩ := I.ex
  refine PS.imp (ps_setLc (i := i) hc hN hy hyl hsw hi P.ok P.hg P.ht P.he hs) fun De σ H h => ?_
  obtain ⟨B, n, ρ, E, R, hm, hn, hr, hb, hcc, hx⟩ := h
  refine k σ H _ ⟨B, n, ρ, _, E.ex ρ, R, hm, fun ds p vs H' q e s hp h1 r => ?_, fun x cls dd H' q e s er => hx B x cls dd σ H' ρ q (R.kp e s) er⟩
  exact hn _ _ H' _ q (R.setOwn e s hp h1 r)
end
/-! ### t[::-1] of a tuple -/
section
open PySem.Spec HT
variable {prog : Program} {w : World} {A : Around} {E : Value → Shared → Prop} {s : Shared}
theorem rev_pick (xs : Array Value) : ((List.range xs.size).filterMap fun (m : Nat) => xs[(((xs.size : Int) - 1) + (m : Int) * (-1)).toNat]?).toArray = xs.toList.reverse.toArray := by
  congr 1
  have h := PySem.W.krv_all xs
  have e : ((List.range xs.size).filterMap fun (m : Nat) => xs[(((xs.size : Int) - 1) + (m : Int) * (-1)).toNat]?) = ((List.range xs.size).map (fun k => xs.size - 1 - k)).filterMap (xs[·]?) := by
    rw [List.filterMap_map]
    congr 1
    funext m
    show _ = xs[xs.size - 1 - m]?
    by_cases hm : m < xs.size
    · rw [show (((xs.size : Int) - 1) + (m : Int) * (-1)).toNat = xs.size - 1 - m by omega]
    · rw [show (((xs.size : Int) - 1) + (m : Int) * (-1)).toNat = 0 by omega, show xs.size - 1 - m = 0 by omega]
  rw [e, PySem.W.krv_range, List.filterMap_reverse, h]
theorem getItem_tuple_rev {t sl : Addr} {items : Array Value} {vs : Value} {Q : Value → Shared → Prop} (ht : IsTup s.heap t items) (hs : s.heap.IsSliceOf sl .none .none vs) (ps : IsPart vs (some (-1)))
    (h : Q (.ref s.heap.objs.size) { s with heap := s.heap.push { cls := .type "tuple", data := .seq items.toList.reverse.toArray } })
    (hsz : items.size ≤ sizeLine) : wpAny (model prog w) A (getItem (.ref t) (.ref sl)) Q E s := by
  have htake : sizeOk (.seq items.toList.reverse.toArray) := by
    show items.toList.reverse.toArray.size ≤ sizeLine
    simpa using hsz
  obtain ⟨os, hos, hcs, hds⟩ := id hs
  have hTs : s.TypeIs (.ref sl) "slice" := ⟨os, hos, hcs⟩
  unfold getItem
  try with_reducible refine wpAny_holding ?_
  first | refine wpAny_bind (wpAny_pure ?_) | skip
  refine wpAny_bind (wpAny_sequenceKey ht.typeIs (by decide) ?_)
  refine wpAny_bind (wpAny_callSpecial?_slot (name := Str.ofString "__getitem__") ht.typeIs PyProof.Rows.slot_tuple_getitem
    (wpAny_call_entry PyProof.Rows.slot_tuple_getitem ht.typeIs entry_tuple_getitem ?_ (args_tuple_getitem _ _)))
  show wpAny _ _ (Builtin.Tuple.tupleItemsOf (.ref t) >>= _) _ _ s
  refine wpAny_bind (tupleItemsOf_ ht ?_)
  refine wpAny_bind (wpAny_typeOf hTs ?_)
  rw [if_pos (by decide)]
  have app : ∀ {A : Around} {Q : Int × Int × Nat → Shared → Prop}, Q ((items.size : Int) - 1, -1, items.size) s → wpAny (model prog w) A (Builtin.Slice.sliceApplied (.ref sl) (pure (items.size : Int))) Q E s := by
    intro A Q h
    unfold Builtin.Slice.sliceApplied Builtin.Slice.sliceFields
    refine wpAny_bind (wpAny_bind (wpAny_field hos hds (x := .none) rfl (wpAny_bind (wpAny_field hos hds (x := .none) rfl (wpAny_bind (wpAny_field hos hds (x := vs) rfl (wpAny_pure ?_)))))))
    refine wpAny_bind (slicePart_ ps ?_)
    show wpAny _ _ (if ((-1 : Int) == 0) = true then _ else _) _ _ s
    rw [if_neg (by decide)]
    refine wpAny_bind (slicePart_none (wpAny_bind (slicePart_none (wpAny_bind (wpAny_pure ?_)))))
    have ad : Builtin.Slice.sliceAdjust none none (-1) (items.size : Int) = ((items.size : Int) - 1, -1) := by
      unfold Builtin.Slice.sliceAdjust
      simp
    have pl : Builtin.Slice.slicePlaces ((items.size : Int) - 1) (-1) (-1) = items.size := by
      unfold Builtin.Slice.slicePlaces
      simp
      omega
    show wpAny _ _ (match Builtin.Slice.sliceAdjust none none (-1) (items.size : Int) with | (lo, hi) => pure (lo, (-1 : Int), Builtin.Slice.slicePlaces lo hi (-1))) _ _ s
    rw [ad]
    show wpAny _ _ (pure ((items.size : Int) - 1, (-1 : Int), Builtin.Slice.slicePlaces ((items.size : Int) - 1) (-1) (-1))) _ _ s
    rw [pl]
    exact wpAny_pure h
  refine wpAny_bind (app ?_)
  have hno : ¬ ((((items.size : Int) - 1) == 0 && (-1 : Int) == 1 && items.size == items.size) = true) := by simp
  show wpAny _ _ (if (((items.size : Int) - 1) == 0 && (-1 : Int) == 1 && items.size == items.size) = true then _ else _) _ _ s
  rw [if_neg hno, rev_pick]
  first
    | exact wpAny_bind (m := Builtin.Tuple.tupleExact _) (wpAny_newObj_type (wpAny_pure ⟨_, rfl, wpAny_pure h⟩) htake)
    | exact wpAny_bind (m := Builtin.Tuple.tupleExact _) (wpAny_newObj_type (wpAny_bind (wpAny_pure (wpAny_pure ⟨_, rfl, wpAny_pure h⟩))) htake)
    | exact wpAny_bind (wpAny_bind (m := Builtin.Tuple.tupleExact _) (wpAny_newObj_type (wpAny_pure (wpAny_pure ⟨_, rfl, wpAny_pure h⟩)) htake))
    | exact wpAny_bind (wpAny_bind (m := Builtin.Tuple.tupleExact _) (wpAny_newObj_type (wpAny_pure ⟨_, rfl, wpAny_pure h⟩) htake))
end
end Hm
set_option Elab.async false
set_option linter.all false
set_option maxRecDepth 100000
set_option maxHeartbeats 2000000
namespace Hm
open PySem L2 PySem.Spec PyProof.Rows
section
variable {X : Cx}
/-- xs[::-1], a list or a tuple -/
def tRevA (K : PySem.W.Frag) (te : TE) : TE := fun σ H Q => te σ H fun x H1 => (∃ a xs, x = .ref a ∧ SqL K H1 a xs ∧ ∀ p, H1 p = none → Q (.ref p) (upd H1 p (.lst xs.reverse))) ∨ ∃ a xs, x = .ref a ∧ SqT K H1 a xs ∧ ∀ p, H1 p = none → Q (.ref p) (upd H1 p (.tup xs.reverse))
theorem pe_revA {e : Expr} {te : TE} {k : Nat} {p1 p2 p3 pos : Pos} (he : PE X e te) : PE X (.Subscript e (.Slice none none (some (.UnaryOp .USub (.Constant (.int 1) k p1) p2)) p3) pos) (tRevA X.K te) := by
  refine ⟨fun pins s σ H Q I h => ?_⟩
  refine Subscript_ (thn (he.run pins s σ H _ I h) fun v s1 ⟨x, H1, I1, r1, q1⟩ => ?_)
  have hst : PO X (some (.UnaryOp .USub (.Constant (.int 1) k p1) p2)) (tPart (tUn (rU fun i => .int (-i)) (tC (.int 1)))) := po_some (pe_un un_neg pe_int)
  refine wpAny_Slice (thn (po_none.run pins s1 σ H1 (fun o H2 => o = none ∧ H2 = H1) I1 ⟨rfl, rfl⟩) fun vl s2 ⟨l, H2, I2, pl, el, e2⟩ => ?_)
  subst el e2
  refine thn (po_none.run pins s2 σ H2 (fun o H3 => o = none ∧ H3 = H2) I2 ⟨rfl, rfl⟩) fun vu s3 ⟨u, H3, I3, pu, eu, e3⟩ => ?_
  subst eu e3
  refine thn (hst.run pins s3 σ H3 (fun o H4 => o = some (-1) ∧ H4 = H3) I3 ⟨1, rfl, -1, rfl, rfl, rfl⟩) fun vs s4 ⟨o, H4, I4, ps, eo, e4⟩ => ?_
  subst eo e4
  have I5 : Inv X pins σ H4 { s4 with heap := s4.heap.push { cls := .type "slice", data := .fields #[vl, vu, vs] } } := I4.kept (t' := s4.toks) fun b ob q => Heap.get?_push_of_some _ q
  rcases q1 with ⟨a, xs, ex, hx, q⟩ | ⟨a, xs, ex, hx, q⟩
  · subst ex
    cases r1
    obtain ⟨its, r, ht, hz⟩ := I5.list hx
    have hlen := r.length
    show wpAny (model X.prog X.w) X.A (subscriptTail e (.Slice none none (some (.UnaryOp .USub (.Constant (.int 1) k p1) p2)) p3) (.ref a) (.ref s4.heap.objs.size)) (EP X pins σ Q) X.xe { s4 with heap := s4.heap.push { cls := .type "slice", data := .fields #[vl, vu, vs] } }
    refine tail_any (ops := [.ref a, .ref s4.heap.objs.size]) ht.isList.typeIs (PySem.slot_list_getitem.lookup) ?_ (by with_unfolding_all rfl)
    refine wpAny_getItem_list_slice ht.isList (Heap.IsSliceOf.new _ vl vu vs) pl pu ps (by decide) ?_ (by rw [List.size_toArray]; omega)
    rw [PySem.W.krv_pick]
    refine ⟨.ref _, _, I5.laid (t' := s4.toks) (o := .lst xs.reverse) (fun b ob q => Heap.get?_push_of_some _ q) (Nat.le_refl _) ?_, rfl, q _ (I5.hok.fresh (Nat.le_refl _))⟩
    exact ⟨by rw [List.length_reverse]; exact hz, _, 0, r.reverse, Heap.get?_push_size _ rfl⟩
  · subst ex
    cases r1
    obtain ⟨its, r, ht, hz⟩ := I5.tuple hx
    have hlen := r.length
    cases pl
    cases pu
    show wpAny (model X.prog X.w) X.A (subscriptTail e (.Slice none none (some (.UnaryOp .USub (.Constant (.int 1) k p1) p2)) p3) (.ref a) (.ref s4.heap.objs.size)) (EP X pins σ Q) X.xe { s4 with heap := s4.heap.push { cls := .type "slice", data := .fields #[.none, .none, vs] } }
    refine tail_any (ops := [.ref a, .ref s4.heap.objs.size]) ht.typeIs (PyProof.Rows.slot_tuple_getitem.lookup) ?_ (by with_unfolding_all rfl)
    refine getItem_tuple_rev ht (Heap.IsSliceOf.new _ .none .none vs) ps ?_ (by rw [List.size_toArray]; omega)
    refine ⟨.ref _, _, I5.laid (t' := s4.toks) (o := .tup xs.reverse) (fun b ob q => Heap.get?_push_of_some _ q) (Nat.le_refl _) ?_, rfl, q _ (I5.hok.fresh (Nat.le_refl _))⟩
    exact ⟨by rw [List.length_reverse]; exact hz, _, r.reverse, ⟨_, Heap.get?_push_size _ rfl, rfl, 0, rfl⟩⟩
/-! xs[-2::-1] -/
def tRev2 (K : PySem.W.Frag) (te : TE) : TE := fun σ H Q => te σ H fun x H1 => ∃ a xs, x = .ref a ∧ SqL K H1 a xs ∧ ∀ p, H1 p = none → Q (.ref p) (upd H1 p (.lst xs.dropLast.reverse))
theorem fmap_congr {α β : Type} {f g : α → Option β} : ∀ {l : List α}, (∀ m ∈ l, f m = g m) → l.filterMap f = l.filterMap g
  | [], _ => rfl
  | x :: r, h => by
    rw [List.filterMap_cons, List.filterMap_cons, h x List.mem_cons_self, fmap_congr fun m hm => h m (List.mem_cons_of_mem _ hm)]
theorem pick2 (items : Array Value) : slicePick items (some (-2)) none (some (-1)) = items.toList.dropLast.reverse.toArray := by
  unfold slicePick
  by_cases h : 2 ≤ items.size
  · have e : sliceBounds (some (-2)) none (some (-1)) items.size = ((items.size : Int) - 2, -1, -1) := by
      unfold sliceBounds
      simp
      omega
    rw [e]
    show ((sliceRange ((items.size : Int) - 2) (-1) (-1)).filterMap (items[·]?)).toArray = _
    have e2 : sliceRange ((items.size : Int) - 2) (-1) (-1) = (List.range (items.size - 1)).map fun k => items.size - 1 - 1 - k := by
      have := PySem.W.krv_sliceRange (items.size - 1)
      rw [← this]
      congr 1
      omega
    rw [e2, PySem.W.krv_range, List.filterMap_reverse]
    have e3 : (List.range (items.size - 1)).filterMap (items[·]?) = items.toList.dropLast := by
      have h2 := PySem.W.krv_all (items.toList.dropLast).toArray
      rw [List.size_toArray, List.length_dropLast, Array.length_toList] at h2
      have h3 : (List.range (items.size - 1)).filterMap (items[·]?) = (List.range (items.size - 1)).filterMap ((items.toList.dropLast).toArray[·]?) := by
        apply fmap_congr
        intro m hm
        have hm' := List.mem_range.mp hm
        rw [← Array.getElem?_toList]
        simp only [List.getElem?_toArray]
        rw [List.getElem?_dropLast, if_pos (by rw [Array.length_toList]; exact hm')]
      rw [h3]; exact h2
    rw [e3]
  · have e : sliceBounds (some (-2)) none (some (-1)) items.size = (-1, -1, -1) := by
      unfold sliceBounds
      simp
      omega
    rw [e]
    have e2 : sliceRange (-1) (-1) (-1) = [] := by decide
    show ((sliceRange (-1) (-1) (-1)).filterMap (items[·]?)).toArray = _
    rw [e2]
    have : items.toList.dropLast = [] := by
      apply List.eq_nil_of_length_eq_zero
      rw [List.length_dropLast, Array.length_toList]; omega
    rw [this]; rfl
theorem pe_rev2 {e : Expr} {te : TE} {k k2 : Nat} {p1 p2 p3 p4 p5 pos : Pos} (he : PE X e te) : PE X (.Subscript e (.Slice (some (.UnaryOp .USub (.Constant (.int 2) k2 p4) p5)) none (some (.UnaryOp .USub (.Constant (.int 1) k p1) p2)) p3) pos) (tRev2 X.K te) := by
  refine ⟨fun pins s σ H Q I h => ?_⟩
  refine Subscript_ (thn (he.run pins s σ H _ I h) fun v s1 ⟨x, H1, I1, r1, q1⟩ => ?_)
  obtain ⟨a, xs, ex, hx, q⟩ := q1
  subst ex
  cases r1
  have hst : PO X (some (.UnaryOp .USub (.Constant (.int 1) k p1) p2)) (tPart (tUn (rU fun i => .int (-i)) (tC (.int 1)))) := po_some (pe_un un_neg pe_int)
  have hlo : PO X (some (.UnaryOp .USub (.Constant (.int 2) k2 p4) p5)) (tPart (tUn (rU fun i => .int (-i)) (tC (.int 2)))) := po_some (pe_un un_neg pe_int)
  refine wpAny_Slice (thn (hlo.run pins s1 σ H1 (fun o H2 => o = some (-2) ∧ H2 = H1) I1 ⟨2, rfl, -2, rfl, rfl, rfl⟩) fun vl s2 ⟨l, H2, I2, pl, el, e2⟩ => ?_)
  subst el e2
  refine thn (po_none.run pins s2 σ H2 (fun o H3 => o = none ∧ H3 = H2) I2 ⟨rfl, rfl⟩) fun vu s3 ⟨u, H3, I3, pu, eu, e3⟩ => ?_
  subst eu e3
  refine thn (hst.run pins s3 σ H3 (fun o H4 => o = some (-1) ∧ H4 = H3) I3 ⟨1, rfl, -1, rfl, rfl, rfl⟩) fun vs s4 ⟨o, H4, I4, ps, eo, e4⟩ => ?_
  subst eo e4
  have I5 : Inv X pins σ H4 { s4 with heap := s4.heap.push { cls := .type "slice", data := .fields #[vl, vu, vs] } } := I4.kept (t' := s4.toks) fun b ob q => Heap.get?_push_of_some _ q
  obtain ⟨its, r, ht, hz⟩ := I5.list hx
  have hlen := r.length
  show wpAny (model X.prog X.w) X.A (subscriptTail e (.Slice (some (.UnaryOp .USub (.Constant (.int 2) k2 p4) p5)) none (some (.UnaryOp .USub (.Constant (.int 1) k p1) p2)) p3) (.ref a) (.ref s4.heap.objs.size)) (EP X pins σ Q) X.xe { s4 with heap := s4.heap.push { cls := .type "slice", data := .fields #[vl, vu, vs] } }
  refine tail_any (ops := [.ref a, .ref s4.heap.objs.size]) ht.isList.typeIs (PySem.slot_list_getitem.lookup) ?_ (by with_unfolding_all rfl)
  refine wpAny_getItem_list_slice ht.isList (Heap.IsSliceOf.new _ vl vu vs) pl pu ps (by decide) ?_ (by rw [List.size_toArray]; omega)
  rw [pick2]
  have r' : Vals xs.dropLast its.dropLast := by
    rw [List.dropLast_eq_take, List.dropLast_eq_take, r.length]
    exact r.take _
  refine ⟨.ref _, _, I5.laid (t' := s4.toks) (o := .lst xs.dropLast.reverse) (fun b ob q => Heap.get?_push_of_some _ q) (Nat.le_refl _) ?_, rfl, q _ (I5.hok.fresh (Nat.le_refl _))⟩
  exact ⟨by rw [List.length_reverse, List.length_dropLast]; omega, _, 0, r'.reverse, Heap.get?_push_size _ rfl⟩
end
/-! over data -/
def dRev : D → DK → Prop
  | .lst xs, Q => Q (.lst xs.reverse)
  | .tup xs, Q => Q (.tup xs.reverse)
  | _, _ => False
@[simp] theorem dRev_l {xs : List D} {Q : DK} : dRev (.lst xs) Q = Q (.lst xs.reverse) := Eq.trans rfl rfl
@[simp] theorem dRev_t {xs : List D} {Q : DK} : dRev (.tup xs) Q = Q (.tup xs.reverse) := Eq.trans rfl rfl
def mRev2 (a : ME) : MA := fun ρ Q W => a ρ (fun x => asL x fun xs => Q xs.dropLast.reverse) W
@[simp] theorem mRev2_eq (a : ME) (ρ : Rho) (Q : List D → Prop) (W : XKD) : mRev2 a ρ Q W = (a ρ (fun x => asL x fun xs => Q xs.dropLast.reverse) W) := Eq.trans rfl rfl
section
variable {f : FrC} {X : Cx} {W : WX} {ca cb cc : Nat} {a b c : Expr} {ma mb mc : ME} {pos : Pos}
theorem Reps.dropLast {g : Gc} {B : Addr → Prop} {H : Hp} {vs : List V} {ds : List D} (r : Reps g B H vs ds) : Reps g B H vs.dropLast ds.dropLast := by
  rw [List.dropLast_eq_take, List.dropLast_eq_take, r.length]
  exact r.take _
theorem ce_rev {k : Nat} {p1 p2 p3 : Pos} (hK : f.g.K = X.K) (he : CE f X W ca a ma) : CE f X W ca (.Subscript a (.Slice none none (some (.UnaryOp .USub (.Constant (.int 1) k p1) p2)) p3) pos) (mUn dRev ma) :=
  PE.imp (pe_revA he) fun σ H Q h => by
    obtain ⟨B, n, ρ, Q0, W0, R, hm, hq, hw⟩ := h
    refine rd_i (m := n) R hm (fun x v H1 h1 e1 R1 r1 => ?_) hw
    cases r1 with
    | lst ha nb rs =>
      refine .inl ⟨_, _, rfl, .inl (.inl ha), fun p hp => ?_⟩
      exact hq _ _ _ h1 (e1.trans (Gw.new hp).kp) ((Gw.new hp).src R1.ok.src) (.lst upd_same (nB R1.ok.dom hp) (rs.reverse.grow (Gw.new hp)))
    | tup ha nb rs =>
      refine .inr ⟨_, _, rfl, .inl (.inl ha), fun p hp => ?_⟩
      exact hq _ _ _ h1 (e1.trans (Gw.new hp).kp) ((Gw.new hp).src R1.ok.src) (.tup upd_same (nB R1.ok.dom hp) (rs.reverse.grow (Gw.new hp)))
    | wtup ha rs =>
      refine .inr ⟨_, _, rfl, .inr (hK ▸ ha), fun p hp => ?_⟩
      exact hq _ _ _ h1 (e1.trans (Gw.new hp).kp) ((Gw.new hp).src R1.ok.src) (.tup upd_same (nB R1.ok.dom hp) (rs.reverse.grow (Gw.new hp)))
    | _ => exact h1.elim
theorem cl_rev2 {k k2 : Nat} {p1 p2 p3 p4 p5 : Pos} (hK : f.g.K = X.K) (he : CE f X W ca a ma) : CL f X W ca (.Subscript a (.Slice (some (.UnaryOp .USub (.Constant (.int 2) k2 p4) p5)) none (some (.UnaryOp .USub (.Constant (.int 1) k p1) p2)) p3) pos) (mRev2 ma) := PE.imp (pe_rev2 he) fun σ H Q h => by
  obtain ⟨B, n, ρ, Q0, W0, R, hm, hq, hw⟩ := h
  refine rd_i (m := n) R hm (fun x v H1 h1 e1 R1 r1 => ?_) hw
  cases r1 with
  | @lst _ vs _ ha nb rs =>
    refine ⟨_, _, rfl, .inl (.inl ha), fun p hp => ?_⟩
    have gw : Gw H1 (upd H1 p (.lst vs.dropLast.reverse)) := Gw.new hp
    exact hq _ _ _ _ h1 (e1.trans gw.kp) (gw.src R1.ok.src) (e1.none R1.ok.dom (fun a h => R1.ok.inB h) hp) upd_same ((rs.dropLast.reverse.avoid hp).grow gw)
  | _ => exact h1.elim
end
end Hm
set_option Elab.async false
set_option linter.all false
set_option maxRecDepth 100000
set_option maxHeartbeats 2000000
namespace Hm
open PySem L2 PySem.Spec PyProof.Rows

/-! ### defs whose answer is new -/
mutual
/-- no list, no dict within -/
def D.noL : D → Bool
  | .non => true
  | .bl _ => true
  | .int _ => true
  | .str _ => true
  | .tup xs => noLs xs
  | _ => false
def noLs : List D → Bool
  | [] => true
  | x :: r => x.noL && noLs r
end
@[simp] theorem noL_non : D.noL .non = true := Eq.trans rfl rfl
@[simp] theorem noL_bl {b : Bool} : D.noL (.bl b) = true := Eq.trans rfl rfl
@[simp] theorem noL_int {b : Int} : D.noL (.int b) = true := Eq.trans rfl rfl
@[simp] theorem noL_str {b : Str} : D.noL (.str b) = true := Eq.trans rfl rfl
@[simp] theorem noL_tup {xs : List D} : D.noL (.tup xs) = noLs xs := Eq.trans rfl rfl
@[simp] theorem noL_lst {xs : List D} : D.noL (.lst xs) = false := Eq.trans rfl rfl
@[simp] theorem noLs_nil : noLs [] = true := Eq.trans rfl rfl
@[simp] theorem noLs_cons {x : D} {xs : List D} : noLs (x :: xs) = (x.noL && noLs xs) := Eq.trans rfl rfl
theorem noLs_iff {xs : List D} : noLs xs = true ↔ ∀ x ∈ xs, x.noL = true := by
  induction xs with
  | nil => simp
  | cons x r ih => simp [ih]
@[simp] theorem noLs_ints {ns : List Int} : noLs (ns.map D.int) = true := by
  rw [noLs_iff]
  intro x hx
  obtain ⟨b, _, rfl⟩ := List.mem_map.mp hx
  rfl
theorem noLs_append {a b : List D} : noLs (a ++ b) = (noLs a && noLs b) := by
  induction a with
  | nil => simp
  | cons x r ih => simp [ih, Bool.and_assoc]
section
variable {g : Gc} {B B' : Addr → Prop} {H H' : Hp}
/- data without lists lean on tuples alone -/
mutual
theorem Rep.moveT (k : ∀ a xs, H a = some (.tup xs) → ¬ B a → H' a = some (.tup xs) ∧ ¬ B' a) : ∀ {v : V} {d : D}, Rep g B H v d → d.noL = true → Rep g B' H' v d
  | _, _, .non, _ => .non
  | _, _, .bl b, _ => .bl b
  | _, _, .int i, _ => .int i
  | _, _, .str s, _ => .str s
  | _, _, .tup h n r, p => .tup (k _ _ h n).1 (k _ _ h n).2 (Reps.moveT k r p)
  | _, _, .wtup h r, p => .wtup h (Reps.moveT k r p)
  | _, _, .lst h n r, p => Bool.noConfusion p
  | _, _, .dct h n r, p => Bool.noConfusion p
  | _, _, .exc0 e h n, p => Bool.noConfusion p
  | _, _, .exc1 e h n h2 n2 r q, p => Bool.noConfusion p
  | _, _, .src e, p => Bool.noConfusion p
  | _, _, .obj e h n r, p => Bool.noConfusion p
theorem Reps.moveT (k : ∀ a xs, H a = some (.tup xs) → ¬ B a → H' a = some (.tup xs) ∧ ¬ B' a) : ∀ {vs : List V} {ds : List D}, Reps g B H vs ds → noLs ds = true → Reps g B' H' vs ds
  | _, _, .nil, _ => .nil
  | _, _, .cons r t, p => by
    have p' := Bool.and_eq_true_iff.mp (show (_ && _) = true from p)
    exact .cons (Rep.moveT k r p'.1) (Reps.moveT k t p'.2)
end
end
/-- lists and dicts that stand in H -/
def LstIn (g : Gc) (H : Hp) (a : Addr) : Prop := ¬ InS g a ∧ ∃ o, H a = some o ∧ HO.isL o
def spOfN (K : PySem.W.Frag) (ct : Str → Option Addr) (c : Nat) (m : MF) : Sp := fun vs H Q E => ∃ (src : Option (Addr × Addr)) (B : Addr → Prop) (n : Nat) (ds : List D) (Q0 : DK) (W0 : XKD),
  (∀ a, InS ⟨K, ct, src⟩ a → B a) ∧ (∀ a, B a → H a ≠ none) ∧ SrcOk ⟨K, ct, src⟩ H (n + c) ∧ Reps ⟨K, ct, src⟩ B H vs ds ∧ m ds Q0 W0 ∧
  (∀ d v H', Q0 d → Kp ⟨K, ct, src⟩ H H' → SrcOk ⟨K, ct, src⟩ H' n → Rep ⟨K, ct, src⟩ (fun a => B a ∨ LstIn ⟨K, ct, src⟩ H a) H' v d → Q v H') ∧
  (∀ x cls dd H', W0 x → Kp ⟨K, ct, src⟩ H H' → SrcOk ⟨K, ct, src⟩ H' n → ErrAt ⟨K, ct, src⟩ B H' cls dd x → E cls dd H')
abbrev FnN (P : Program) (w : World) (K : PySem.W.Frag) (mg : Str → Option Value) (base : Heap) (ct : Str → Option Addr) (k : Nat) (f : Addr) (fd : FuncData) (ps : List Str) (c : Nat) (m : MF) : Prop := FnOk P w K mg base (L2.CX P w) k f fd ps (spOfN K ct c m)
section
variable {P : Program} {w : World} {K : PySem.W.Frag} {mg : Str → Option Value} {base : Heap} {ct : Str → Option Addr}
/-- a def whose answer is new: as any other def -/
theorem FnN.d {k c : Nat} {fa : Addr} {fd : FuncData} {ps : List Str} {m : MF} (F : FnN P w K mg base ct k fa fd ps c m) : FnD P w K mg base ct k fa fd ps c m :=
  FnOk.imp F fun vs H Q E z => by
    obtain ⟨src, B, n, ds, Q0, W0, h1, h2, h3, h4, h5, h6, h7⟩ := z
    exact ⟨src, B, n, ds, Q0, W0, h1, h2, h3, h4, h5, fun d v H' q e s r => h6 d v H' q e s (r.move fun a o h nb => ⟨h, fun z => nb (.inl z)⟩), h7⟩
theorem FnN.cost {k c c' : Nat} {fa : Addr} {fd : FuncData} {ps : List Str} {m : MF} (F : FnN P w K mg base ct k fa fd ps c m) (hc : c ≤ c') : FnN P w K mg base ct k fa fd ps c' m :=
  FnOk.imp F fun vs H Q E z => by
    obtain ⟨src, B, n, ds, Q0, W0, h1, h2, h3, h4, h5, h6, h7⟩ := z
    exact ⟨src, B, n + (c' - c), ds, Q0, W0, h1, h2, h3.mono (by omega), h4, h5, fun d v H' q e s r => h6 d v H' q e (s.mono (by omega)) r, fun x cls dd H' q e s er => h7 x cls dd H' q e (s.mono (by omega)) er⟩
theorem fn_new {x qual : Str} {st : Stmt} {fa : Addr} {fd : FuncData} {N ps : List Str} {k c : Nat} {ms : MS} (F : Fun K x qual st fa fd) (S : FnScope N ps (defScope st))
    (body : ∀ (cdv : Value) (A : Around) (outer : List Env) (s : Shared) (H : Hp) (E : XK) (f : FrC), f.g.K = K → f.g.ct = ct → NOk f → Room k (A.deeper (envOfC qual (defScope st) s.heap.objs.size fa cdv)) →
      CB f (cxOf (L2.CX P w) P w K mg base N qual (defScope st) fa cdv A outer s H E) (fun cls d _ H => E cls d H) c (defBody st) ms) : FnN P w K mg base ct (k + 1) fa fd ps c (mFun ps.length N.length ms) := by
  refine F.okX S (fun vs H Q E h => ?_) (fun cdv A outer s H vs Q E hr h => ?_)
  · obtain ⟨src, B, n, ds, Q0, W0, h1, h2, h3, h4, h5, _⟩ := h
    rw [h4.length]
    exact h5.1
  · obtain ⟨src, B, n, ds, Q0, W0, h1, h2, h3, h4, h5, h6, h7⟩ := h
    refine ⟨_, body cdv A outer s H E ⟨⟨K, ct, src⟩, B, H, LstIn ⟨K, ct, src⟩ H⟩ rfl rfl (fun a ha => ha) hr, ?_⟩
    refine ⟨B, n, _, _, rel_start h1 h2 h3 h4 h5.1, h5.2, fun B' σ' H' ρ' q R' => ?_, fun d v H' q e s' r => ?_, fun B' σ' H' ρ' q R' => q.elim, fun B' σ' H' ρ' q R' => q.elim, fun B' x cls dd σ' H' ρ' q R' er => ?_⟩
    · exact h6 _ _ H' q R'.ok.keep R'.ok.src .non
    · exact h6 d v H' q e s' r
    · refine h7 x cls dd H' q R'.ok.keep R'.ok.src ?_
      obtain ⟨C, e1, e2, e3⟩ := er
      refine ⟨C, e1, e2, ?_⟩
      rcases e3 with e3 | ⟨d, kvs, z1, z2, z3, z4, z5⟩
      · exact .inl e3
      · exact .inr ⟨d, kvs, z1, z2, fun z => z3 (R'.ok.b0 d z), z4.move fun a o h nb => ⟨h, fun z => nb (R'.ok.b0 a z)⟩, z5⟩
end
/-! what such a def returns -/
section
variable {f : FrC} {X : Cx} {W : WX} {ca cb cc : Nat} {a b c : Expr} {es : List Expr} {ma mb mc : ME} {mt : MT} {mas : MA} {pos : Pos} {ms : MS} {B : Addr → Prop} {σ : L2.St} {H : Hp} {ρ : Rho} {n : Nat}
theorem Okk.notN (k : Okk f B H n) (nw : NOk f) {a : Addr} {xs : List V} (h : H a = some (.tup xs)) : ¬ f.N a := fun z => by
  obtain ⟨ns, o, h0, hl⟩ := nw a z
  have := k.keep a o ns h0
  rw [h] at this
  cases this
  exact hl
theorem Rep.noR {v : V} {d : D} (k : Okk f B H n) (nw : NOk f) (r : Rep f.g B H v d) (h : d.noL = true) : Rep f.g f.RB H v d :=
  r.moveT (fun a xs h nb => ⟨h, fun z => z.elim (fun y => nb (k.b0 a y)) (k.notN nw h)⟩) h
theorem Reps.noR {v : List V} {d : List D} (k : Okk f B H n) (nw : NOk f) (r : Reps f.g B H v d) (h : noLs d = true) : Reps f.g f.RB H v d :=
  r.moveT (fun a xs h nb => ⟨h, fun z => z.elim (fun y => nb (k.b0 a y)) (k.notN nw h)⟩) h
/-- return e, no list in it -/
def mRetP (e : ME) : MS := fun ρ E => e ρ (fun d => d.noL = true ∧ E.rt d) (E.ex ρ)
@[simp] theorem mRetP_eq (e : ME) (ρ : Rho) (E : DEnds) : mRetP e ρ E = e ρ (fun d => d.noL = true ∧ E.rt d) (E.ex ρ) := Eq.trans rfl rfl
theorem cs_retP (nw : NOk f) (he : CE f X W ca a ma) : CS f X W ca (.Return (some a) pos) (mRetP ma) := PS.imp (ps_ret he) fun D σ H h => by
  obtain ⟨B, n, ρ, E, R, hm, hn, hr, hb, hc, hx⟩ := h
  exact rd_i (m := n) R hm (fun d v H1 h1 e1 R1 r1 => hr d v H1 h1.2 R1.ok.keep R1.ok.src (r1.noR R1.ok nw h1.1)) fun x cls dd H' q e s er => hx B x cls dd σ H' ρ q (R.kp e s) er
/-- return x, x an own list -/
def mRetO (i : Nat) : MS := fun ρ E => own? ρ[i]? fun ds => noLs ds = true ∧ E.rt (.lst ds)
@[simp] theorem mRetO_eq (i : Nat) (ρ : Rho) (E : DEnds) : mRetO i ρ E = (own? ρ[i]? fun ds => noLs ds = true ∧ E.rt (.lst ds)) := Eq.trans rfl rfl
theorem Rel.ownR {i : Nat} {ds : List D} (R : Rel f B σ H ρ n) (nw : NOk f) (e : ρ[i]? = some (.own ds)) (hl : noLs ds = true) : ∃ p, σ[i]? = some (some (.ref p)) ∧ Rep f.g f.RB H (.ref p) (.lst ds) := by
  obtain ⟨p, vs, es, hB, h0, hp, r⟩ := R.ownAt e
  refine ⟨p, es, .lst hp (fun z => ?_) (r.noR R.ok nw hl)⟩
  rcases z with z | z
  · exact R.ok.own0 h0 z
  · obtain ⟨_, o, h1, _⟩ := nw p z
    rw [h0] at h1; cases h1
theorem cs_retO {i : Nat} {x : Str} {p : Pos} (nw : NOk f) (hN : X.N[i]? = some x := by rfl) (hv : Vis X.env.scope x := by first | exact Or.inl rfl | exact Or.inr (Or.inl rfl) | exact Or.inr (Or.inr rfl)) (hd : (x == ("__debug__" : Str)) = false := by decide)
    (hcd : (x == ("__classdict__" : Str)) = false := by decide) : CS f X W 0 (.Return (some (.Name x p)) pos) (mRetO i) := PS.imp (ps_ret (pe_var hN hv hd hcd)) fun D σ H h => by
  obtain ⟨B, n, ρ, E, R, hm, hn, hr, hb, hc, hx⟩ := h
  obtain ⟨ds, e, hm⟩ := own?_is hm
  obtain ⟨p, es, r⟩ := R.ownR nw e hm.1
  exact ⟨.ref p, es, hr _ _ H hm.2 R.ok.keep R.ok.src r⟩
/-- return (e, x), x an own list -/
def mRetT (e : ME) (i : Nat) : MS := fun ρ E => e ρ (fun d => own? ρ[i]? fun ds => (d.noL = true ∧ noLs ds = true) ∧ E.rt (.tup [d, .lst ds])) (E.ex ρ)
@[simp] theorem mRetT_eq (e : ME) (i : Nat) (ρ : Rho) (E : DEnds) : mRetT e i ρ E = e ρ (fun d => own? ρ[i]? fun ds => (d.noL = true ∧ noLs ds = true) ∧ E.rt (.tup [d, .lst ds])) (E.ex ρ) := Eq.trans rfl rfl
theorem cs_retT {i : Nat} {x : Str} {p : Pos} {x1 pt} (nw : NOk f) (he : CE f X W ca a ma) (hN : X.N[i]? = some x := by rfl) (hv : Vis X.env.scope x := by first | exact Or.inl rfl | exact Or.inr (Or.inl rfl) | exact Or.inr (Or.inr rfl)) (hd : (x == ("__debug__" : Str)) = false := by decide)
    (hcd : (x == ("__classdict__" : Str)) = false := by decide) (ea : starEach [a, .Name x p] X.env = (false, eval a X.env) :: starEach [.Name x p] X.env := by rfl) (eb : starEach [.Name x p] X.env = (false, eval (.Name x p) X.env) :: starEach [] X.env := by rfl) :
    CS f X W ca (.Return (some (.Tuple [a, .Name x p] x1 pt)) pos) (mRetT ma i) := PS.imp (ps_ret (pe_tup (pa_cons he (pa_cons (pe_var hN hv hd hcd) pa_nil eb) ea))) fun D σ H h => by
  obtain ⟨B, n, ρ, E, R, hm, hn, hr, hb, hc, hx⟩ := h
  refine rd_i (m := n) R hm (fun d v H1 h1 e1 R1 r1 => ?_) fun x cls dd H' q e s er => hx B x cls dd σ H' ρ q (R.kp e s) er
  obtain ⟨ds, e, h1⟩ := own?_is h1
  obtain ⟨p, es, r⟩ := R1.ownR nw e h1.1.2
  refine ⟨.ref p, es, by show 2 ≤ sizeLine; decide, fun q hq => ?_⟩
  have gw : Gw H1 (L2.upd H1 q (.tup [v, .ref p])) := Gw.new hq
  have nq : ¬ f.RB q := fun z => by
    rcases z with z | z
    · exact R1.ok.dom q (R1.ok.b0 q z) hq
    · obtain ⟨ns, o, h0, _⟩ := nw q z
      rw [R1.ok.keep q o ns h0] at hq; cases hq
  exact hr _ _ _ h1.2 (R1.ok.keep.trans gw.kp) (gw.src R1.ok.src) (.tup upd_same nq (.cons ((r1.noR R1.ok nw h1.1.1).grow gw) (.cons (r.grow gw) .nil)))
/-- return of a new list -/
def mRetL (e : MA) : MS := fun ρ E => e ρ (fun ds => noLs ds = true ∧ E.rt (.lst ds)) (E.ex ρ)
@[simp] theorem mRetL_eq (e : MA) (ρ : Rho) (E : DEnds) : mRetL e ρ E = e ρ (fun ds => noLs ds = true ∧ E.rt (.lst ds)) (E.ex ρ) := Eq.trans rfl rfl
theorem cs_retL (nw : NOk f) (he : CL f X W ca a mas) : CS f X W ca (.Return (some a) pos) (mRetL mas) := PS.imp (ps_ret he) fun D σ H h => by
  obtain ⟨B, n, ρ, E, R, hm, hn, hr, hb, hc, hx⟩ := h
  refine ⟨B, n, ρ, _, E.ex ρ, R, hm, fun ds p vs H' q e s hp h1 r => ?_, fun x cls dd H' q e s er => hx B x cls dd σ H' ρ q (R.kp e s) er⟩
  have R1 := R.kp e s
  have r1 : Reps f.g B H' vs ds := r.free
  refine hr _ _ H' q.2 R1.ok.keep s (.lst h1 (fun z => ?_) (r1.noR R1.ok nw q.1))
  rcases z with z | z
  · exact R.ok.dom p (R.ok.b0 p z) hp
  · obtain ⟨ns, o, h0, _⟩ := nw p z
    rw [R.ok.keep p o ns h0] at hp; cases hp
/-! its call: a new list -/
def mCallL (fn : MF) (a : MA) : MA := fun ρ Q W => a ρ (fun xs => fn xs (fun d => asL d fun ds => noLs ds = true ∧ Q ds) W) W
@[simp] theorem mCallL_eq (fn : MF) (a : MA) (ρ : Rho) (Q : List D → Prop) (W : XKD) : mCallL fn a ρ Q W = (a ρ (fun xs => fn xs (fun d => asL d fun ds => noLs ds = true ∧ Q ds) W) W) := Eq.trans rfl rfl
theorem cl_callN {k c : Nat} {fa : Addr} {fd : FuncData} {ps : List Str} {m : MF} {x : Str} {p : Pos} {ct : Str → Option Addr} (F : FnN X.prog X.w X.K X.mg X.base ct k fa fd ps c m) (hct : f.g.ct = ct) (hK : f.g.K = X.K) (tk : Takes X W) (hr : Room k X.A) (hg : Gl X x) (hm : X.mg x = some (.ref fa)) (hk : PySem.W.keepIn X.K (.ref fa) = true) (hb : Binds X.K fd ps [])
    (ha : CA f X W ca (a :: es) mas) (hdb : (x == ("__debug__" : Str)) = false := by decide) (he : starEach (a :: es) X.env = (false, eval a X.env) :: starEach es X.env := by rfl) (hpl : (backTo pos (starEach es X.env)).any (·.1) = false := by rfl) :
    CL f X W (ca + c) (.Call (.Name x p) (a :: es) [] pos) (mCallL m mas) := PE.imp (pe_callS F hr hg hm hk hb (fun σ => passAt tk σ) ha hdb he hpl) fun σ H Q h => by
  obtain ⟨B, n, ρ, Q0, W0, R, hm, hq, hw⟩ := h
  refine ra_i (m := n + c) (R.mono (by omega)) hm (fun ds vs H1 h1 e1 R1 r1 => ?_) (fun x cls dd H' q e s er => hw x cls dd H' q e (s.mono (by omega)) er)
  obtain ⟨g, B0, H0, N0⟩ := f
  obtain ⟨K, ct, src⟩ := g
  cases hK
  cases hct
  refine ⟨src, B, n, ds, _, W0, fun a ha => R1.ok.inB ha, R1.ok.dom, R1.ok.src, r1, h1, fun d v H' q e s r => ?_, fun x cls dd H' q e s er => hw x cls dd H' q (e1.trans e) s er⟩
  cases r with
  | @lst p us es hp nb rs =>
    have hp1 : H1 p = none := by
      cases z : H1 p with
      | none => rfl
      | some o =>
        by_cases hs : InS ⟨X.K, ct, src⟩ p
        · exact absurd (.inl (R1.ok.inB hs)) nb
        · have z2 := e p o hs z
          rw [hp] at z2; cases z2
          exact absurd (.inr ⟨hs, _, z, trivial⟩) nb
    have hp0 := e1.none R1.ok.dom (fun a h => R1.ok.inB h) hp1
    refine hq es p us H' q.2 (e1.trans e) s hp0 hp (rs.moveT (fun a xs h nb => ⟨h, fun z => ?_⟩) q.1)
    rcases z with z | z
    · exact nb (.inl z)
    · rw [z, hp] at h; cases h
  | _ => exact q.elim
/-- f(..).append(e), f's list is new -/
def mAppN (e : MA) (a : ME) : MS := fun ρ E => e ρ (fun ds => a ρ (fun _ => ds.length < sizeLine ∧ E.nx ρ) (E.ex ρ)) (E.ex ρ)
@[simp] theorem mAppN_eq (e : MA) (a : ME) (ρ : Rho) (E : DEnds) : mAppN e a ρ E = e ρ (fun ds => a ρ (fun _ => ds.length < sizeLine ∧ E.nx ρ) (E.ex ρ)) (E.ex ρ) := Eq.trans rfl rfl
theorem cs_appN {apos cpos : Pos} (he : CL f X W ca a mas) (hb : CE f X W cb b mb)
    (hbase : attributeBase a "append" X.env (eval a X.env) = eval a X.env := by rfl)
    (hfew : ((backTo cpos (starEach [b] X.env)).all (fun x => !x.1) && (backToKw cpos (keywordEach [] X.env)).all (fun x => x.1.isSome)
      && decide ([b].length + ([] : List Keyword).length + (if ([] : List Keyword).isEmpty then 0 else 1) < 30)) = true := by rfl)
    (hline : (apos.endLine == cpos.line) = true := by rfl) (hst : starEach [b] X.env = (false, eval b X.env) :: starEach [] X.env := by rfl) (hplain : (backTo cpos (starEach [] X.env)).any (·.1) = false := by rfl)
    (hs : swapsWith (.Call (.Attribute a "append" apos) [b] [] cpos) none pos.line X.env = pure false := by rfl) :
    CS f X W (ca + cb) (.Expr (.Call (.Attribute a "append" apos) [b] [] cpos) pos) (mAppN mas mb) :=
  PS.imp (ps_expr (pe_bm PySem.F.plainAttrs_list PySem.F.slot_list_append PySem.F.type_list_append mt_append he (pa_cons hb pa_nil hst) hbase hfew hline hst hplain) hs) fun De σ H h => by
    obtain ⟨B, n, ρ, E, R, hm, hn, hr, hb, hc, hx⟩ := h
    refine ⟨B, n + cb, ρ, _, E.ex ρ, R.mono (by omega), hm, fun ds p vs H1 q e1 s1 hp hp1 r => ?_, fun x cls dd H' q e s er => hx B x cls dd σ H' ρ q (R.kp e (s.mono (by omega))) er⟩
    have R1 := R.kp e1 s1
    refine ⟨.inl ⟨rfl, vs, .inl (.inl hp1)⟩, ?_⟩
    refine rd_i (m := n) R1 q (fun d v H2 h2 e2 R2 r2 => ?_) fun x cls dd H' q e s er => hx B x cls dd σ H' ρ q (R1.kp e s) er
    have nS : ¬ InS f.g p := fun z => R.ok.dom p (R.ok.inB z) hp
    refine ⟨p, vs, v, rfl, rfl, e2 _ _ nS hp1, by rw [r.length]; exact h2.1, ?_⟩
    refine hn B σ _ ρ h2.2 (R.kp (fun a o ns h => ?_) (R2.ok.src.upd nS))
    rw [upd_ne (ne_of_none h hp)]
    exact e2 a o ns (e1 a o ns h)
theorem cs_retC {k c : Nat} {fa : Addr} {fd : FuncData} {ps : List Str} {m : MF} {x : Str} {p cpos : Pos} {ct : Str → Option Addr} (nw : NOk f) (F : FnN X.prog X.w X.K X.mg X.base ct k fa fd ps c m) (hct : f.g.ct = ct) (hK : f.g.K = X.K) (tk : Takes X W) (hr : Room k X.A) (hg : Gl X x) (hm : X.mg x = some (.ref fa)) (hk : PySem.W.keepIn X.K (.ref fa) = true) (hb : Binds X.K fd ps [])
    (ha : CA f X W ca (a :: es) mas) (hdb : (x == ("__debug__" : Str)) = false := by decide) (he : starEach (a :: es) X.env = (false, eval a X.env) :: starEach es X.env := by rfl) (hpl : (backTo cpos (starEach es X.env)).any (·.1) = false := by rfl) :
    CS f X W (ca + c) (.Return (some (.Call (.Name x p) (a :: es) [] cpos)) pos) (mRet (mCall m mas)) := PS.imp (ps_ret (pe_callS F hr hg hm hk hb (fun σ => passAt tk σ) ha hdb he hpl)) fun D σ H h => by
  obtain ⟨B, n, ρ, E, R, hm, hn, hr, hb, hc, hx⟩ := h
  refine ra_i (m := n + c) (R.mono (by omega)) hm (fun ds vs H1 h1 e1 R1 r1 => ?_) (fun x cls dd H' q e s er => hx B x cls dd σ H' ρ q (R.kp e (s.mono (by omega))) er)
  obtain ⟨g, B0, H0, N0⟩ := f
  obtain ⟨K, ct, src⟩ := g
  cases hK
  cases hct
  refine ⟨src, B, n, ds, _, _, fun a ha => R1.ok.inB ha, R1.ok.dom, R1.ok.src, r1, h1, fun d v H' q e s r => ?_, fun x cls dd H' q e s er => hx B x cls dd σ H' ρ q (R.kp (e1.trans e) s) er⟩
  refine hr d v H' q (R1.ok.keep.trans e) s (r.move fun a o h nb => ⟨h, fun z => nb ?_⟩)
  rcases z with z | z
  · exact .inl (R1.ok.b0 a z)
  · obtain ⟨ns, o', h0, hl⟩ := nw a z
    exact .inr ⟨ns, o', R1.ok.keep a o' ns h0, hl⟩
/-! x, y = [], e: x an own list -/
theorem Rel.setOwnB {i : Nat} {p : Addr} {vs : List V} {ds : List D} (R : Rel f B σ H ρ n) (hB : B p) (h0 : f.H0 p = none) (old : ∀ (j : Nat) x, ρ[j]? = some x → x.isOwn = true → σ[j]? ≠ some (some (.ref p))) (hp : H p = some (.lst vs)) (r : Reps f.g B H vs ds) :
    Rel f B (σ.set i (some (.ref p))) H (ρ.set i (.own ds)) n := by
  refine ⟨R.ok, by rw [List.length_set, List.length_set, R.len], fun j x o h2 h3 => ?_, fun a b q x y ne h2 o2 h3 o3 s2 => ?_⟩
  · rcases set_cases h2 with ⟨e1, e2, _⟩ | ⟨e1, h2⟩
    · rcases set_cases h3 with ⟨_, e4, _⟩ | ⟨e3, _⟩
      · subst e2; subst e4
        exact ⟨p, vs, rfl, hB, h0, hp, r⟩
      · exact absurd e1 e3
    · rcases set_cases h3 with ⟨e3, _⟩ | ⟨_, h3⟩
      · exact absurd e3 e1
      · exact R.sl j x o h2 h3
  · rcases set_cases h2 with ⟨e1, e2, l1⟩ | ⟨e1, h2⟩
    · subst e1
      rw [List.getElem?_set_self (by rw [R.len]; exact l1)] at s2
      cases s2
      rcases set_cases h3 with ⟨e3, _⟩ | ⟨e3, h3⟩
      · exact absurd e3 ne
      · rw [List.getElem?_set_ne e3]
        exact old b y h3 o3
    · rw [List.getElem?_set_ne e1] at s2
      rcases set_cases h3 with ⟨e3, e4, l3⟩ | ⟨e3, h3⟩
      · subst e3
        rw [List.getElem?_set_self (by rw [R.len]; exact l3)]
        intro z
        cases z
        exact old a x h2 o2 s2
      · rw [List.getElem?_set_ne e3]
        exact R.inj a b q x y ne h2 o2 h3 o3 s2
def mParO (i j : Nat) (e : ME) : MS := fun ρ E => e ρ (fun d => E.nx ((ρ.set i (.own [])).set j (.dat d))) (E.ex ρ)
@[simp] theorem mParO_eq (i j : Nat) (e : ME) (ρ : Rho) (E : DEnds) : mParO i j e ρ E = e ρ (fun d => E.nx ((ρ.set i (.own [])).set j (.dat d))) (E.ex ρ) := Eq.trans rfl rfl
theorem cs_parO {i j : Nat} {x y : Str} {px py pt lp : Pos} {kt k2 pt2} (hc : X.calm = true) (hN : X.N.Nodup) (hij : i ≠ j) (hb : CE f X W cb b mb) (hi : X.N[i]? = some x := by rfl) (hj : X.N[j]? = some y := by rfl)
    (hx : X.env.scope.names.lookup x = some .local := by rfl) (hy : X.env.scope.names.lookup y = some .local := by rfl)
    (hw : swappedStores [.Tuple [.Name x px, .Name y py] kt pt] (.Tuple [.List [] lp, b] k2 pt2) X.env = pure (some [x, y]) := by rfl)
    (hs : swapsWithSole [.Tuple [.Name x px, .Name y py] kt pt] (.Tuple [.List [] lp, b] k2 pt2) pos.line X.env = pure false := by rfl) (ea : starEach [.List [] lp, b] X.env = (false, eval (.List [] lp) X.env) :: starEach [b] X.env := by rfl) (eb : starEach [b] X.env = (false, eval b X.env) :: starEach [] X.env := by rfl) :
    CS f X W cb (.Assign [.Tuple [.Name x px, .Name y py] kt pt] (.Tuple [.List [] lp, b] k2 pt2) pos) (mParO i j mb) :=
  PS.imp (ps_par (i := i) (j := j) hc hN hi hj hij hx hy (pa_cons (pe_lst pa_nil) (pa_cons hb pa_nil eb) ea) hw hs) fun D σ H h => by
    obtain ⟨B, n, ρ, E, R, hm, hn, hr, hb, hc, hx⟩ := h
    refine ⟨Nat.zero_le _, fun p hp => ?_⟩
    have R0 := R.hide (o := .lst []) hp
    refine rd_i (m := n) (B := fun a => B a ∨ a = p) R0 hm (fun d v H1 h1 e1 R1 r1 => ?_) fun x cls dd H' q e s er => ?_
    · have h0 := R.ok.h0 hp
      have hp1 : H1 p = some (.lst []) := e1 _ _ (R0.ok.nS h0) upd_same
      refine ⟨_, _, rfl, hn _ _ H1 _ h1 (Rel.set (R1.setOwnB (vs := []) (ds := []) (.inr rfl) h0 (R.noSlot hp) hp1 .nil) r1)⟩
    · exact hx _ x cls dd σ H' ρ q (R0.kp e s) er
end
end Hm
set_option Elab.async false
set_option linter.all false
set_option maxRecDepth 100000
set_option maxHeartbeats 2000000
namespace Hm
open PySem L2 PySem.Spec PyProof.Rows

/-! ### range(a, b) with ends of any size -/
theorem turn_long {P : Program} {w : World} {K : PySem.W.Frag} {tg : Expr} (it : Addr) (lo : Int) (n : Nat) : Turn P w K tg (Itr lo n) [it] it (fun i h => IsLongIter h it (lo + (i : Nat) * 1) ((n : Int) - (i : Nat)) 1) where
  mem := by simp
  obj := fun i h st b hb => by
    have e : b = it := by simpa using hb
    subst e
    exact ⟨_, st, fun v z => by
      have z' : Data.fields _ = Data.cell v := z
      cases z'⟩
  keep := fun i h h' st k => k it (by simp) _ st
  item := by
    intro X hP hw hK hc i pins s σ H E I hf st hg
    subst hP hw hK
    obtain ⟨f0, f1, f2, f3, f4, f5⟩ := hf it (by simp)
    have W := Walks.longrange (prog := X.prog) (w := X.w) (I.ok.hd hc) it lo 1 n
    refine W.item i s _ _ hg st fun v h' tk hv st' kk => ?_
    obtain ⟨t, rfl⟩ := hv
    have I1 : Inv X pins σ H { s with heap := h', toks := tk } := I.turned (fun b o hb e => kk b o (by simpa using hb) e) f0 f1 f3 f4 f5
    refine ⟨_, rfl, go_of (s := { s with heap := h', toks := tk }) (n := "longrange_iterator") st' rfl rfl (by decide) ⟨.int (lo + i), H, I1, ⟨t, ?_⟩, ⟨rfl, rfl⟩, st', fun b hb => (hf b hb).1⟩⟩
    rw [Int.mul_one]
  done := by
    intro X hP hw hK hc i pins s σ H E I hf st hg
    subst hP hw hK
    obtain ⟨f0, f1, f2, f3, f4, f5⟩ := hf it (by simp)
    exact wpAny_pyNext_long_end (I.ok.hd hc) st (by have : n ≤ i := hg; omega) fun h' eb => ⟨rfl, I.turned (t' := s.toks) (fun b o hb e => eb b o hb e) f0 f1 f3 f4 f5⟩
  self := fun _ _ _ _ _ st h => wpAny_pyIter_longiter st h
section
variable {X : Cx} {tg : Expr}
theorem range_itA {pins : List (Addr × Obj)} {σ : L2.St} {H : Hp} {s : Shared} {R : It → Hp → Prop} {E : Value → Shared → Prop} {lo hi : Int} {t u v : Tok} {tk : Nat} (I : Inv X pins σ H s)
    (q : R (Itr lo (hi - lo).toNat) H) : wpAny (model X.prog X.w) X.A (pyIter (.ref s.heap.objs.size)) (PIE X pins σ tg R) E { s with heap := s.heap.push { cls := .type "range", data := .fields #[.int lo t, .int hi u, .int 1 v] }, toks := tk } := by
  have I1 : Inv X pins σ H { s with heap := s.heap.push { cls := .type "range", data := .fields #[.int lo t, .int hi u, .int 1 v] }, toks := tk } := I.kept fun b o e => Heap.get?_push_of_some _ e
  have e1 : lo + ((0 : Nat) : Int) * 1 = lo := by simp
  have e2 : (((hi - lo).toNat : Nat) : Int) - ((0 : Nat) : Int) = Builtin.Range.rangeSize lo hi 1 := by rw [rangeSize_one]; split <;> omega
  have fp : ∀ b ∈ [(s.heap.push { cls := .type "range", data := .fields #[.int lo t, .int hi u, .int 1 v] }).objs.size], FpOk X pins H b := fun b hb => by
    have e : b = (s.heap.push { cls := .type "range", data := .fields #[.int lo t, .int hi u, .int 1 v] }).objs.size := by simpa using hb
    subst e
    exact I1.fpOk (Nat.le_refl _) (I1.hok.fresh (Nat.le_refl _))
  cases hs : Builtin.Range.small lo hi 1 with
  | true =>
    refine wpAny_pyIter_range (IsRange.new ..) hs ?_
    refine ⟨(s.heap.push { cls := .type "range", data := .fields #[.int lo t, .int hi u, .int 1 v] }).objs.size, [(s.heap.push { cls := .type "range", data := .fields #[.int lo t, .int hi u, .int 1 v] }).objs.size], _, _, H, rfl,
      I1.kept (t' := tk) fun b o e => Heap.get?_push_of_some _ e, turn_range _ lo (hi - lo).toNat, ?_, fp, q⟩
    show IsRangeIter _ _ (lo + ((0 : Nat) : Int) * 1) ((((hi - lo).toNat : Nat) : Int) - ((0 : Nat) : Int)) 1
    rw [e1, e2]
    exact Heap.get?_push_size _ rfl
  | false =>
    refine wpAny_pyIter_longrange (IsRange.new ..) hs ?_
    refine ⟨(s.heap.push { cls := .type "range", data := .fields #[.int lo t, .int hi u, .int 1 v] }).objs.size, [(s.heap.push { cls := .type "range", data := .fields #[.int lo t, .int hi u, .int 1 v] }).objs.size], _, _, H, rfl,
      I1.kept (t' := tk) fun b o e => Heap.get?_push_of_some _ e, turn_long _ lo (hi - lo).toNat, ?_, fp, q⟩
    show IsLongIter _ _ (lo + ((0 : Nat) : Int) * 1) ((((hi - lo).toNat : Nat) : Int) - ((0 : Nat) : Int)) 1
    rw [e1, e2]
    exact Heap.get?_push_size _ rfl
def iRngA (ta : TA) : TI := fun σ H R => ta σ H fun vs H1 => ∃ i j : Int, vs = [.int i, .int j] ∧ R (Itr i (j - i).toNat) H1
theorem pi_rangeA {a b : Expr} {ta : TA} {p pos : Pos} (hg : Gl X "range") (hm : X.mg "range" = none) (ha : PA X [a, b] ta) (hs : starEach [a, b] X.env = [(false, eval a X.env), (false, eval b X.env)] := by rfl) (hs2 : starEach [b] X.env = [(false, eval b X.env)] := by rfl) :
    PI X tg (.Call (.Name "range" p) [a, b] [] pos) (iRngA ta) := by
  refine ⟨fun pins s σ H R I h => ?_⟩
  refine Call_ (ld_blt I hg hm boot_range (PyProof.Rows.callWith_type1 (thn (ha.run pos pins s σ H _ I h) fun us s1 ⟨vs, H1, I1, r1, q1⟩ => ?_) (by rw [hs, hs2]) (by rw [hs2]; rfl)))
  obtain ⟨i, j, e, q⟩ := q1
  subst e
  cases r1 with
  | cons r rr =>
    cases rr with
    | cons r' rr =>
      cases rr
      obtain ⟨t, rfl⟩ := r
      obtain ⟨t', rfl⟩ := r'
      exact call_range_2 (range_itA I1 q)
end
def mForA (a b : ME) (g : MG) (body : MS) : MS := fun ρ E => a ρ (fun x => b ρ (fun y => asI x fun i => asI y fun j => mForL g body (rngD i (j - i).toNat) ρ E) (E.ex ρ)) (E.ex ρ)
@[simp] theorem mForA_eq (a b : ME) (g : MG) (body : MS) (ρ : Rho) (E : DEnds) : mForA a b g body ρ E = a ρ (fun x => b ρ (fun y => asI x fun i => asI y fun j => mForL g body (rngD i (j - i).toNat) ρ E) (E.ex ρ)) (E.ex ρ) := Eq.trans rfl rfl
def mLcA (a b : ME) (g : MG) (t : MT) (e : ME) (vs : List Nat) : MA := fun ρ Q W => a ρ (fun x => b ρ (fun y => asI x fun i => asI y fun j => mLcL g t e (wipeD ρ vs) (rngD i (j - i).toNat) [] Q) W) W
@[simp] theorem mLcA_eq (a b : ME) (g : MG) (t : MT) (e : ME) (vs : List Nat) (ρ : Rho) (Q : List D → Prop) (W : XKD) : mLcA a b g t e vs ρ Q W = a ρ (fun x => b ρ (fun y => asI x fun i => asI y fun j => mLcL g t e (wipeD ρ vs) (rngD i (j - i).toNat) [] Q) W) W := Eq.trans rfl rfl
section
variable {f : FrC} {X : Cx} {W : WX} {ca cb cc ct ce : Nat} {a b c : Expr} {elt tg : Expr} {ifs : List Expr} {ma mb mc me : ME} {mt : MT} {ms : MS} {pos : Pos} {scope : Scope} {own : List (Str × Nat)} {t : TG} {g : MG} {is : List Nat} {body : List Stmt}
/-- for x in range(a, b), no draws within -/
theorem cs_rangeA {p cpos : Pos} (hp : PassesOwn (model X.prog X.w) X.A X.env X.xe) (hc : X.calm = true) (hgl : Gl X "range") (hmg : X.mg "range" = none) (hi : CE f X W ca a ma) (hj : CE f X W cc b mb) (hg : PG X tg t) (hd : TgDs f t g) (hb : CBs f X W cb body ms)
    (ha : starEach [a, b] X.env = [(false, eval a X.env), (false, eval b X.env)] := by rfl) (ha2 : starEach [b] X.env = [(false, eval b X.env)] := by rfl) (hs : ∀ x, foldedSetIterable (.Call (.Name "range" p) [a, b] [] cpos) X.env x = pure x := by intro _; rfl) (h0 : cb = 0 := by rfl) :
    CS f X W (ca + cc) (.For tg (.Call (.Name "range" p) [a, b] [] cpos) body [] pos) (mForA ma mb g ms) := by
  subst h0; exact
  PS.imp (ps_for hp hc (pi_rangeA hgl hmg (pa_cons hi (pa_cons hj pa_nil ha2) (ha.trans (by rw [ha2]))) ha ha2) hg hb.ps hs) fun De σ H h => by
    obtain ⟨B, n, ρ, E, R, hm, hn, hr, hbk, hct, hx⟩ := h
    refine rd_i (m := n + cc) (R.mono (by omega)) hm (fun x vx H1 h1 e1 R1 r1 => ?_) (fun x cls dd H' q e s er => hx B x cls dd σ H' ρ q (R.kp e (s.mono (by omega))) er)
    refine rd_i (m := n) R1 h1 (fun y vy H2 h2 e2 R2 r2 => ?_) (fun x cls dd H' q e s er => hx B x cls dd σ H' ρ q (R1.kp e s) er)
    cases r1 with
    | int i =>
      cases r2 with
      | int j => exact ⟨i, j, rfl, for_coreR (n := n) (cb := 0) (L := (j - i).toNat) (lo := i) hd (Nat.le_refl _) (by rw [Nat.mul_zero]; exact R2) h2 hn hr hx⟩
      | _ => exact h2.elim
    | _ => exact h2.elim
theorem li_rangeA {p cpos : Pos} (P : LcP f X scope own tg ifs elt ct ce t is g mt me) (h0 : ct + ce = 0) (hgl : Gl X "range") (hmg : X.mg "range" = none) (hi : CE f X W ca a ma) (hj : CE f X W cb b mb) (ha : starEach [a, b] X.env = [(false, eval a X.env), (false, eval b X.env)] := by rfl) (ha2 : starEach [b] X.env = [(false, eval b X.env)] := by rfl) :
    LcI f X W tg (.Call (.Name "range" p) [a, b] [] cpos) ct ce t g mt me own (ca + cb) (mLcA ma mb g mt me (own.map (·.2))) := ⟨_, pi_rangeA hgl hmg (pa_cons hi (pa_cons hj pa_nil ha2) (ha.trans (by rw [ha2]))) ha ha2, fun σ H Q h => by
  obtain ⟨B, n, ρ, Q0, W0, R, hm, hq, hw⟩ := h
  refine rd_i (m := n + cb) (R.mono (by omega)) hm (fun d v H1 h1 e1 R1 r1 => ?_) (fun x cls dd H' q e s er => hw x cls dd H' q e (s.mono (by omega)) er)
  refine rd_i (m := n) R1 h1 (fun d2 v2 H2 h2 e2 R2 r2 => ?_) (fun x cls dd H' q e s er => hw x cls dd H' q (e1.trans e) s er)
  cases r1 with
  | int i =>
    cases r2 with
    | int j => exact ⟨i, j, rfl, fun Dl hD => rl_lcR (L := (j - i).toNat) P.hd P.hi (by rw [h0, Nat.mul_zero]; exact R2) (Nat.le_refl _) (e1.trans e2) h2 hq hD⟩
    | _ => exact h2.elim
  | _ => exact h2.elim⟩
end
end Hm
set_option Elab.async false
set_option linter.all false
set_option maxRecDepth 100000
set_option maxHeartbeats 2000000
namespace Hm
open PySem L2 PySem.Spec PyProof.Rows

/-! ### x[k].append(e), x not read any more: told apart from the other data by what they hold -/
theorem relV_fn {v w : V} {u : Value} (a : L2.RelV v u) (b : L2.RelV w u) : v = w := by
  cases v <;> cases w <;> simp only [L2.RelV] at a b <;> first | rfl | (subst a; cases b; done) | (obtain ⟨_, rfl⟩ := a; cases b; done) | (subst a; obtain ⟨_, b⟩ := b; cases b; done) | (obtain ⟨_, rfl⟩ := a; obtain ⟨_, b⟩ := b; cases b; done) | (subst a; cases b; rfl) | (obtain ⟨_, rfl⟩ := a; obtain ⟨_, b⟩ := b; cases b; rfl)
theorem vals_fn : ∀ {xs ys : List V} {us : List Value}, Vals xs us → Vals ys us → xs = ys
  | _, _, _, .nil, .nil => rfl
  | _, _, _, .cons a r, .cons b t => by rw [relV_fn a b, vals_fn r t]
section
variable {g : Gc} {B : Addr → Prop} {H : Hp}
mutual
theorem Rep.fn (dj : ∀ a o, g.K.lookup a = some o → H a = none) : ∀ {v : V} {d e : D}, Rep g B H v d → Rep g B H v e → d.noL = true → e.noL = true → d = e
  | _, _, _, .non, .non, _, _ => rfl
  | _, _, _, .bl _, .bl _, _, _ => rfl
  | _, _, _, .int _, .int _, _, _ => rfl
  | _, _, _, .str _, .str _, _, _ => rfl
  | _, _, _, .tup h _ r, .tup h' _ r', p, q => by
    rw [h] at h'; cases h'
    rw [Reps.fn dj r r' p q]
  | _, _, _, .tup h _ r, .wtup h' r', p, q => by
    obtain ⟨o, _, _, h1, _⟩ := h'
    rw [dj _ _ h1] at h; cases h
  | _, _, _, .wtup h' r', .tup h _ r, p, q => by
    obtain ⟨o, _, _, h1, _⟩ := h'
    rw [dj _ _ h1] at h; cases h
  | _, _, _, .wtup h r, .wtup h' r', p, q => by
    obtain ⟨o, its, n, h1, h2, h3, h4, h5⟩ := h
    obtain ⟨o', its', n', h1', h2', h3', h4', h5'⟩ := h'
    rw [h1] at h1'; cases h1'
    rw [h3] at h3'; cases h3'
    have := vals_fn h5 h5'
    subst this
    rw [Reps.fn dj r r' p q]
  | _, _, _, .lst _ _ _, _, p, _ => Bool.noConfusion p
  | _, _, _, .dct _ _ _, _, p, _ => Bool.noConfusion p
  | _, _, _, .exc0 _ _ _, _, p, _ => Bool.noConfusion p
  | _, _, _, .exc1 _ _ _ _ _ _ _, _, p, _ => Bool.noConfusion p
  | _, _, _, .src _, _, p, _ => Bool.noConfusion p
  | _, _, _, .obj _ _ _ _, _, p, _ => Bool.noConfusion p
  | _, _, _, .tup _ _ _, .lst _ _ _, _, p => Bool.noConfusion p
  | _, _, _, .tup _ _ _, .dct _ _ _, _, p => Bool.noConfusion p
  | _, _, _, .tup _ _ _, .exc0 _ _ _, _, p => Bool.noConfusion p
  | _, _, _, .tup _ _ _, .exc1 _ _ _ _ _ _ _, _, p => Bool.noConfusion p
  | _, _, _, .tup _ _ _, .src _, _, p => Bool.noConfusion p
  | _, _, _, .tup _ _ _, .obj _ _ _ _, _, p => Bool.noConfusion p
  | _, _, _, .wtup _ _, .lst _ _ _, _, p => Bool.noConfusion p
  | _, _, _, .wtup _ _, .dct _ _ _, _, p => Bool.noConfusion p
  | _, _, _, .wtup _ _, .exc0 _ _ _, _, p => Bool.noConfusion p
  | _, _, _, .wtup _ _, .exc1 _ _ _ _ _ _ _, _, p => Bool.noConfusion p
  | _, _, _, .wtup _ _, .src _, _, p => Bool.noConfusion p
  | _, _, _, .wtup _ _, .obj _ _ _ _, _, p => Bool.noConfusion p
theorem Reps.fn (dj : ∀ a o, g.K.lookup a = some o → H a = none) : ∀ {vs : List V} {ds es : List D}, Reps g B H vs ds → Reps g B H vs es → noLs ds = true → noLs es = true → ds = es
  | _, _, _, .nil, .nil, _, _ => rfl
  | _, _, _, .cons r t, .cons r' t', p, q => by
    have p' := Bool.and_eq_true_iff.mp (show (_ && _) = true from p)
    have q' := Bool.and_eq_true_iff.mp (show (_ && _) = true from q)
    rw [Rep.fn dj r r' p'.1 q'.1, Reps.fn dj t t' p'.2 q'.2]
end
end
/-- the frame keeps nothing but its callers' own -/
def FrC.Bare (f : FrC) : Prop := ∀ a, f.H0 a ≠ none → f.B0 a
/-- d does not hold the list of ds -/
def D.freeOf (ds : List D) : D → Prop
  | .src => True
  | .lst es => noLs es = true ∧ es ≠ ds
  | d => d.noL = true
@[simp] theorem freeOf_non {ds : List D} : D.freeOf ds .non ↔ True := by simp [D.freeOf]
@[simp] theorem freeOf_int {ds : List D} {i : Int} : D.freeOf ds (.int i) ↔ True := by simp [D.freeOf]
@[simp] theorem freeOf_bl {ds : List D} {i : Bool} : D.freeOf ds (.bl i) ↔ True := by simp [D.freeOf]
@[simp] theorem freeOf_str {ds : List D} {i : Str} : D.freeOf ds (.str i) ↔ True := by simp [D.freeOf]
@[simp] theorem freeOf_src {ds : List D} : D.freeOf ds .src ↔ True := by simp [D.freeOf]
@[simp] theorem freeOf_tup {ds xs : List D} : D.freeOf ds (.tup xs) ↔ noLs xs = true := by simp [D.freeOf]
@[simp] theorem freeOf_lst {ds es : List D} : D.freeOf ds (.lst es) ↔ (noLs es = true ∧ es ≠ ds) := by simp [D.freeOf]
def Sl.freeOf (ds : List D) : Sl → Prop
  | .un => True
  | .dat d => d.freeOf ds
  | .own es => noLs es = true
  | .ownd _ => False
  | .ownt _ => False
  | .kt _ => False
@[simp] theorem sfreeOf_un {ds : List D} : Sl.freeOf ds .un ↔ True := by simp [Sl.freeOf]
@[simp] theorem sfreeOf_dat {ds : List D} {d : D} : Sl.freeOf ds (.dat d) ↔ d.freeOf ds := by simp [Sl.freeOf]
@[simp] theorem sfreeOf_own {ds es : List D} : Sl.freeOf ds (.own es) ↔ noLs es = true := by simp [Sl.freeOf]
def unAll : List Nat → Rho → Rho
  | [], ρ => ρ
  | i :: is, ρ => unAll is (ρ.set i .un)
@[simp] theorem unAll_nil {ρ : Rho} : unAll [] ρ = ρ := Eq.trans rfl rfl
@[simp] theorem unAll_cons {i : Nat} {is : List Nat} {ρ : Rho} : unAll (i :: is) ρ = unAll is (ρ.set i .un) := Eq.trans rfl rfl
section
variable {f : FrC} {X : Cx} {W : WX} {ca cb cc : Nat} {a b c : Expr} {es : List Expr} {ma mb mc : ME} {mt : MT} {mas : MA} {pos : Pos} {ms : MS} {B : Addr → Prop} {σ : L2.St} {H : Hp} {ρ : Rho} {n : Nat} {body : List Stmt}
theorem Rel.unIf {i : Nat} (R : Rel f B σ H ρ n) : Rel f B σ H (ρ.set i .un) n := by
  refine ⟨R.ok, by rw [List.length_set, R.len], fun j x o h1 h2 => ?_, fun a b p x y ne h1 o1 h2 o2 s1 => ?_⟩
  · rcases set_cases h1 with ⟨_, e2, _⟩ | ⟨_, h1⟩
    · subst e2; trivial
    · exact R.sl j x o h1 h2
  · rcases set_cases h1 with ⟨_, e2, _⟩ | ⟨_, h1⟩
    · subst e2; cases o1
    · rcases set_cases h2 with ⟨_, e2, _⟩ | ⟨_, h2⟩
      · subst e2; cases o2
      · exact R.inj a b p x y ne h1 o1 h2 o2 s1
theorem Rel.unAll {is : List Nat} : ∀ {ρ : Rho}, Rel f B σ H ρ n → Rel f B σ H (Hm.unAll is ρ) n := by
  induction is with
  | nil => exact fun R => R
  | cons i is ih => exact fun R => ih R.unIf
theorem PS.impI {X : Cx} {e : Stmt} {t t' : TS} (h : PS X e t) (k : ∀ D σ H, (∀ a o, X.K.lookup a = some o → H a = none) → t' D σ H → t D σ H) : PS X e t' :=
  ⟨fun pins s σ H D I q => h.run pins s σ H D I (k D σ H (fun a o e => (I.bs a o (I.ok.mod.kin a o e)).2) q)⟩

def mAppD (i : Nat) (k : Int) (is : List Nat) (b : ME) : MS := fun ρ E => datOf ρ[i]? fun y => dIx y (.int k) fun z => asL z fun ds => b ρ (fun _ => (noLs ds = true ∧ ds.length < sizeLine) ∧ (∀ x ∈ unAll (i :: is) ρ, x.freeOf ds) ∧ E.nx (unAll (i :: is) ρ)) (E.ex ρ)
@[simp] theorem mAppD_eq (i : Nat) (k : Int) (is : List Nat) (b : ME) (ρ : Rho) (E : DEnds) : mAppD i k is b ρ E = (datOf ρ[i]? fun y => dIx y (.int k) fun z => asL z fun ds => b ρ (fun _ => (noLs ds = true ∧ ds.length < sizeLine) ∧ (∀ x ∈ unAll (i :: is) ρ, x.freeOf ds) ∧ E.nx (unAll (i :: is) ρ)) (E.ex ρ)) := Eq.trans rfl rfl
theorem datOf_is {o : Option Sl} {Q : DK} (h : datOf o Q) : ∃ d, o = some (.dat d) ∧ Q d := by
  unfold datOf at h
  split at h
  · exact ⟨_, rfl, h⟩
  · exact h.elim
theorem asL_is {d : D} {Q : List D → Prop} (h : asL d Q) : ∃ ds, d = .lst ds ∧ Q ds := by
  unfold asL at h
  split at h
  · exact ⟨_, rfl, h⟩
  · exact h.elim
/-- a list that no slot holds any more is written -/
theorem Rel.putD {H2 : Hp} {p : Addr} {vs us : List V} {ds : List D} {m : Nat} (dj : ∀ a o, f.g.K.lookup a = some o → H a = none) (br : f.Bare) (R : Rel f B σ H ρ n) (R2 : Rel f B σ H2 ρ m) (hp : H p = some (.lst vs)) (nb : ¬ B p) (rs : Reps f.g B H vs ds) (hl : noLs ds = true) (hp2 : H2 p = some (.lst vs))
    (hf : ∀ x ∈ ρ, x.freeOf ds) : Rel f B σ (L2.upd H2 p (.lst us)) ρ m := by
  have nS : ¬ InS f.g p := fun z => nb (R.ok.inB z)
  have mvT : ∀ a xs, H2 a = some (.tup xs) → ¬ B a → L2.upd H2 p (.lst us) a = some (.tup xs) ∧ ¬ B a := fun a xs h nb => ⟨by
    rw [upd_ne (fun z => by rw [z, hp2] at h; cases h)]; exact h, nb⟩
  refine ⟨⟨R2.ok.s0, R2.ok.d0, R2.ok.b0, R2.ok.ow, fun a h => ?_, fun a u ns h => ?_, R2.ok.src.upd nS⟩, R2.len, fun j x o h1 h2 => ?_, R2.inj⟩
  · rw [upd_ne (fun z : a = p => nb (by rw [← z]; exact h))]
    exact R2.ok.dom a h
  · have hb := R2.ok.b0 a (br a (by rw [h]; exact fun z => nomatch z))
    rw [upd_ne (fun z : a = p => nb (by rw [← z]; exact hb))]
    exact R2.ok.keep a u ns h
  · have q := R2.sl j x o h1 h2
    have q0 := R.sl j x o h1 h2
    have hx := hf x (List.mem_of_getElem? h1)
    cases x with
    | un => trivial
    | own es =>
      obtain ⟨p', ws, e1, b, h0, hp', r⟩ := q
      exact ⟨p', ws, e1, b, h0, by rw [upd_ne (fun z : p' = p => nb (by rw [← z]; exact b))]; exact hp', r.moveT mvT (by simpa using hx)⟩
    | ownt _ => exact hx.elim
    | kt _ => exact hx.elim
    | ownd es => exact hx.elim
    | dat d =>
      obtain ⟨v, e1, r⟩ := q
      obtain ⟨v0, e0, r0⟩ := q0
      rw [e1] at e0; cases e0
      refine ⟨v, e1, ?_⟩
      cases d with
      | src =>
        cases r with
        | src e => exact .src e
      | lst es =>
        rw [sfreeOf_dat, freeOf_lst] at hx
        cases r with
        | @lst q ws _ hq nq rq =>
          cases r0 with
          | @lst _ ws0 _ hq0 nq0 rq0 =>
            have ne : q ≠ p := fun z => by
              rw [z, hp] at hq0; cases hq0
              exact hx.2 (Reps.fn dj rq0 rs hx.1 hl)
            exact .lst (by rw [upd_ne ne]; exact hq) nq (rq.moveT mvT hx.1)
      | non => exact r.moveT mvT rfl
      | bl _ => exact r.moveT mvT rfl
      | int _ => exact r.moveT mvT rfl
      | str _ => exact r.moveT mvT rfl
      | tup xs => exact r.moveT mvT (by simpa using hx)
      | dct _ => simp [Sl.freeOf, D.freeOf, D.noL] at hx
      | exc _ _ => simp [Sl.freeOf, D.freeOf, D.noL] at hx
      | obj _ _ => simp [Sl.freeOf, D.freeOf, D.noL] at hx
theorem cs_appD {i : Nat} {k : Int} {is : List Nat} {x : Str} {px ipos kpos apos cpos : Pos} {j} (hK : f.g.K = X.K) (br : f.Bare) (hb : CE f X W cb b mb) (hN : X.N[i]? = some x := by rfl) (hv : Vis X.env.scope x := by first | exact Or.inl rfl | exact Or.inr (Or.inl rfl) | exact Or.inr (Or.inr rfl)) (hd : (x == ("__debug__" : Str)) = false := by decide) (hcd : (x == ("__classdict__" : Str)) = false := by decide)
    (hbase : attributeBase (.Subscript (.Name x px) (.Constant (.int k) j kpos) ipos) "append" X.env (eval (.Subscript (.Name x px) (.Constant (.int k) j kpos) ipos) X.env) = eval (.Subscript (.Name x px) (.Constant (.int k) j kpos) ipos) X.env := by rfl)
    (hfew : ((backTo cpos (starEach [b] X.env)).all (fun x => !x.1) && (backToKw cpos (keywordEach [] X.env)).all (fun x => x.1.isSome)
      && decide ([b].length + ([] : List Keyword).length + (if ([] : List Keyword).isEmpty then 0 else 1) < 30)) = true := by rfl)
    (hline : (apos.endLine == cpos.line) = true := by rfl) (hst : starEach [b] X.env = (false, eval b X.env) :: starEach [] X.env := by rfl) (hplain : (backTo cpos (starEach [] X.env)).any (·.1) = false := by rfl)
    (hs : swapsWith (.Call (.Attribute (.Subscript (.Name x px) (.Constant (.int k) j kpos) ipos) "append" apos) [b] [] cpos) none pos.line X.env = pure false := by rfl) :
    CS f X W cb (.Expr (.Call (.Attribute (.Subscript (.Name x px) (.Constant (.int k) j kpos) ipos) "append" apos) [b] [] cpos) pos) (mAppD i k is mb) :=
  PS.impI (ps_expr (pe_bm PySem.F.plainAttrs_list PySem.F.slot_list_append PySem.F.type_list_append mt_append (pe_ix ix_seq (pe_var hN hv hd hcd) pe_int (fun _ _ => rfl)) (pa_cons hb pa_nil hst) hbase hfew hline hst hplain) hs) fun De σ H dj h => by
    obtain ⟨B, n, ρ, E, R, hm, hn, hr, hb, hc, hx⟩ := h
    rw [← hK] at dj
    obtain ⟨y, ey, hm⟩ := datOf_is hm
    have hli : i < σ.length := by rw [R.len]; exact (List.getElem?_eq_some_iff.mp ey).1
    obtain ⟨v, ev, r⟩ := R.sl i _ _ ey (List.getElem?_eq_getElem hli)
    have ev' : σ[i]? = some (some v) := by rw [List.getElem?_eq_getElem hli, ev]
    have hI : ∃ (z : D) (u : V), Rep f.g B H u z ∧ asL z (fun ds => mb ρ (fun _ => (noLs ds = true ∧ ds.length < sizeLine) ∧ (∀ x ∈ unAll (i :: is) ρ, x.freeOf ds) ∧ E.nx (unAll (i :: is) ρ)) (E.ex ρ)) ∧ ∀ Qv : VK, Qv u H → rIx X.K v (.int k) H Qv := by
      cases r with
      | @tup a xs ds ha nb rs =>
        obtain ⟨z, hz, hq⟩ := hm
        obtain ⟨u, eu, ru⟩ := rs.atI hz
        exact ⟨z, u, ru, hq, fun Qv q => .inr (.inl ⟨a, xs, k, u, rfl, rfl, .inl (.inl ha), eu, q⟩)⟩
      | @wtup a xs ds ha rs =>
        obtain ⟨z, hz, hq⟩ := hm
        obtain ⟨u, eu, ru⟩ := rs.atI hz
        exact ⟨z, u, ru, hq, fun Qv q => .inr (.inl ⟨a, xs, k, u, rfl, rfl, .inr (hK ▸ ha), eu, q⟩)⟩
      | @lst a xs ds ha nb rs =>
        obtain ⟨z, hz, hq⟩ := hm
        obtain ⟨u, eu, ru⟩ := rs.atI hz
        exact ⟨z, u, ru, hq, fun Qv q => .inl ⟨a, xs, k, u, rfl, rfl, .inl (.inl ha), eu, q⟩⟩
      | str _ =>
        obtain ⟨c, h1, h2, h3⟩ := hm
        exact h3.elim
      | _ => exact hm.elim
    obtain ⟨z, u, ru, hz, hI⟩ := hI
    obtain ⟨ds, rfl, hz⟩ := asL_is hz
    cases ru with
    | @lst p vs _ hp nb rs =>
      refine ⟨v, ev', hI _ ⟨.inl ⟨rfl, vs, .inl (.inl hp)⟩, ?_⟩⟩
      refine rd_i (m := n) R hz (fun d w H2 h2 e2 R2 r2 => ?_) fun x cls dd H' q e s er => hx B x cls dd σ H' ρ q (R.kp e s) er
      have hp2 : H2 p = some (.lst vs) := e2 _ _ (fun z => nb (R.ok.inB z)) hp
      refine ⟨p, vs, w, rfl, rfl, hp2, by rw [rs.length]; exact h2.1.2, ?_⟩
      exact hn B σ _ _ h2.2.2 (Rel.putD dj br R.unAll R2.unAll hp nb rs h2.1.1 hp2 h2.2.1)
/-! ### range: the body under the same frame -/
theorem turn_s {t : TG} {g : MG} {De : Ends} {E : DEnds} {Pv : L2.St → Hp → Prop} {x : V} {d : D} {xs : List D} {k : Nat} {is : List Nat} (hd : TgD f is t g) (R : Rel f B σ H ρ (n + k + cb)) (r : Rep f.g B H x d) (h : mForL g ms (d :: xs) ρ E)
    (hn : ∀ B' σ' H' ρ', E.nx ρ' → Rel f B' σ' H' ρ' n → De.nx σ' H') (hr : ∀ d v H', E.rt d → Kp f.g f.H0 H' → SrcOk f.g H' n → Rep f.g f.RB H' v d → De.rt v H')
    (hx : ∀ B' x cls dd σ' H' ρ', E.ex ρ' x → Rel f B' σ' H' ρ' n → ErrAt f.g B' H' cls dd x → W cls dd σ' H')
    (next : ∀ B' σ' H' ρ', mForL g ms xs ρ' E → Rel f B' σ' H' ρ' (n + k) → Pv σ' H') :
    t x σ H fun σ2 H2 => RS f W cb ms { De with nx := Pv, ct := Pv, bk := De.nx } σ2 H2 := by
  refine hd B σ H ρ _ x d _ _ R r h fun σ2 ρ2 q R2 _ => ?_
  refine ⟨B, n + k, ρ2, _, R2, q, fun B' σ' H' ρ' q' R' => next B' σ' H' ρ' q' R', fun d v H' q' e s rr => hr d v H' q' e (s.mono (by omega)) rr, fun B' σ' H' ρ' q' R' => hn B' σ' H' ρ' q' (R'.mono (by omega)), fun B' σ' H' ρ' q' R' => next B' σ' H' ρ' q' R', fun B' x cls dd σ' H' ρ' q' R' er => hx B' x cls dd σ' H' ρ' q' (R'.mono (by omega)) er⟩
theorem for_coreS {De : Ends} {E : DEnds} {t : TG} {g : MG} {L k : Nat} {lo : Int} {is : List Nat} (hd : TgD f is t g) (hz : k ≤ L) (R : Rel f B σ H ρ (n + L * cb)) (h : mForL g ms (rngD lo k) ρ E)
    (hn : ∀ B' σ' H' ρ', E.nx ρ' → Rel f B' σ' H' ρ' n → De.nx σ' H') (hr : ∀ d v H', E.rt d → Kp f.g f.H0 H' → SrcOk f.g H' n → Rep f.g f.RB H' v d → De.rt v H')
    (hx : ∀ B' x cls dd σ' H' ρ', E.ex ρ' x → Rel f B' σ' H' ρ' n → ErrAt f.g B' H' cls dd x → W cls dd σ' H') :
    ∃ Wf : Nat → Nat → L2.St → Hp → Prop, (∃ m, Wf 0 m σ H) ∧ ∀ i m σ H, Wf i m σ H →
      ((Itr lo k).stop i H ∧ De.nx σ H) ∨ ((Itr lo k).go i H ∧ ∃ N : L2.St → Hp → Prop, (∀ σ' H', N σ' H' → ∃ m', m' < m ∧ Wf (i + 1) m' σ' H') ∧ ∀ x H', (Itr lo k).yld i H x H' → t x σ H' fun σ2 H2 => RS f W cb ms { De with nx := N, ct := N, bk := De.nx } σ2 H2) := by
  refine for_range (lo := lo) (n := k) (fun i σ' H' => ∃ B' ρ', Rel f B' σ' H' ρ' (n + (L - i) * cb) ∧ mForL g ms ((rngD lo k).drop i) ρ' E)
    ⟨B, ρ, R, h⟩ (fun i σ' H' hi' hP => ?_) (fun σ' H' hP => ?_)
  · obtain ⟨B', ρ', R', hf⟩ := hP
    rw [rng_drop hi'] at hf
    exact turn_s (n := n) (k := (L - (i + 1)) * cb) hd (R'.mono (mul_step (by omega))) (.int _) hf hn hr hx fun B2 σ2 H2 ρ2 q2 R2 => ⟨B2, ρ2, R2, q2⟩
  · obtain ⟨B', ρ', R', hf⟩ := hP
    have e : (rngD lo k).drop k = [] := List.drop_of_length_le (by unfold rngD; rw [List.length_map, List.length_range]; exact Nat.le_refl _)
    rw [e] at hf
    exact hn B' σ' H' ρ' hf (R'.mono (by omega))
theorem cs_range1S {tg : Expr} {t : TG} {g : MG} {p cpos : Pos} {is : List Nat} (hp : PassesOwn (model X.prog X.w) X.A X.env X.xe) (hc : X.calm = true) (hgl : Gl X "range") (hmg : X.mg "range" = none) (hi : CE f X W ca a ma) (hg : PG X tg t) (hd : TgD f is t g) (hb : CB f X W cb body ms)
    (ha : starEach [a] X.env = [(false, eval a X.env)] := by rfl) (hs : ∀ x, foldedSetIterable (.Call (.Name "range" p) [a] [] cpos) X.env x = pure x := by intro _; rfl) : CS f X W (ca + 2 ^ 62 * cb) (.For tg (.Call (.Name "range" p) [a] [] cpos) body [] pos) (mForR1 ma g ms) :=
  PS.imp (ps_for hp hc (pi_range1 hgl hmg (ca_cons hi ca_nil ha) ha) hg hb hs) fun De σ H h => by
    obtain ⟨B, n, ρ, E, R, hm, hn, hr, hbk, hct, hx⟩ := h
    refine ra_i (m := n + 2 ^ 62 * cb) (Q0 := fun ds => ∃ d, ds = [d] ∧ asI d fun j => (-(2 ^ 62) ≤ j ∧ j < 2 ^ 62) ∧ mForL g ms (rngD 0 j.toNat) ρ E) (W0 := E.ex ρ) (R.mono (by omega)) ?_ (fun ds vs H1 h1 e1 R1 r1 => ?_) fun x cls dd H' q e s er => hx B x cls dd σ H' ρ q (R.kp e (s.mono (by omega))) er
    · show ma ρ (fun x => ∃ d, [x] = [d] ∧ _) _
      have e : (fun x : Hm.D => ∃ d, [x] = [d] ∧ asI d fun j => (-(2 ^ 62) ≤ j ∧ j < 2 ^ 62) ∧ mForL g ms (rngD 0 j.toNat) ρ E) = (fun x => asI x fun j => (-(2 ^ 62) ≤ j ∧ j < 2 ^ 62) ∧ mForL g ms (rngD 0 j.toNat) ρ E) := by
        funext x
        apply propext
        constructor
        · rintro ⟨d, e, q⟩
          injection e with e _
          subst e
          exact q
        · exact fun q => ⟨x, rfl, q⟩
      rw [e]
      exact hm
    · obtain ⟨d, rfl, q⟩ := h1
      cases r1 with
      | cons r1 r2 =>
        cases r2
        cases r1 with
        | int j => exact ⟨j, rfl, q.1.1, q.1.2, for_coreS (n := n) (cb := cb) (L := 2 ^ 62) (lo := 0) hd (by have := q.1.2; omega) R1 q.2 hn hr hx⟩
        | _ => exact q.elim
end
/-- the law under a frame that keeps the source alone -/
theorem fn_lawS {P : Program} {w : World} {K : PySem.W.Frag} {mg : Str → Option Value} {base : Heap} {ct : Str → Option Addr} {x qual : Str} {st : Stmt} {fa fS : Addr} {fd fdS : FuncData} {N : List Str} {px y : Str} {k c n : Nat} {ms : MS} {sts : List Stmt} {p1 p2 p3 p4 p5 : Pos} {z : Str}
    (F : Fun K x qual st fa fd) (S : FnScope N [px] (defScope st)) (hN : N.length = n + 2) (hc : c ≤ 2 ^ 19999) (hst : defBody st = .Assign [.Name y p1] (.Call (.Name z p2) [.Name px p3] [] p4) p5 :: sts)
    (FS : FnOk P w K mg base (L2.CX P w) k fS fdS [px] (spSource K)) (hm : mg z = some (.ref fS)) (kS : PySem.W.keepIn K (.ref fS) = true) (bS : Binds K fdS [px] [])
    (h0 : N[0]? = some px) (h1 : N[1]? = some y) (l0 : (defScope st).names.lookup px = some .local) (l1 : Loc (defScope st) y) (gz : (defScope st).names.lookup z = some .globalImplicit)
    (hdb : (px == ("__debug__" : Str)) = false := by decide) (hcd : (px == ("__classdict__" : Str)) = false := by decide) (hdz : (z == ("__debug__" : Str)) = false := by decide)
    (body : ∀ (cdv : Value) (A : Around) (outer : List Env) (s : Shared) (H : Hp) (E : XK) (f : FrC), f.g.K = K → f.g.ct = ct → (f.N = fun _ => False) → Room k (A.deeper (envOfC qual (defScope st) s.heap.objs.size fa cdv)) → f.Bare →
      CB f (cxOf (L2.CX P w) P w K mg base N qual (defScope st) fa cdv A outer s H E) (fun cls d _ H => E cls d H) c sts ms) : FnOk P w K mg base (L2.CX P w) (k + 1) fa fd [px] (spLaw K n ms) := by
  refine F.okX S (fun vs H Q E h => ?_) (fun cdv A outer s H vs Q E hr h => ?_)
  · obtain ⟨a, ns, rfl, _⟩ := h
    rfl
  · obtain ⟨a, ns, rfl, hS, hl, hmm, hq⟩ := h
    rw [hst]
    have b := fun f hK hct hN br => body cdv A outer s H E f hK hct hN hr br
    have hr0 : PSs (cxOf (L2.CX P w) P w K mg base N qual (defScope st) fa cdv A outer s H E) sts (fun D σ H' => ∃ f : FrC, f.g.K = K ∧ f.g.ct = ct ∧ (f.N = fun _ => False) ∧ f.Bare ∧ RS f (fun cls d _ H => E cls d H) c ms D σ H') := ⟨fun pins s σ H D I ⟨f, e1, e2, e3, e4, q⟩ => (b f e1 e2 e3 e4).run pins s σ H D I q⟩
    have hv : PE (cxOf (L2.CX P w) P w K mg base N qual (defScope st) fa cdv A outer s H E) (.Name px p3) (tVar 0) := pe_var h0 (.inl l0) hdb hcd
    have ht : Takes (cxOf (L2.CX P w) P w K mg base N qual (defScope st) fa cdv A outer s H E) (fun cls d _ H => E cls d H) := takes_of rfl rfl rfl rfl
    refine ⟨_, pss_cons (ps_asg (pe_callS FS hr gz hm kS bS (fun σ => passAt ht σ) (pa_cons hv pa_nil) hdz) (pg_name (i := 1) S.nd h1 l1 (.inl rfl))) hr0, ?_⟩
    have es : L2.start N [.ref a] = some (.ref a) :: none :: List.replicate n none := by
      unfold L2.start
      rw [hN]
      show some (V.ref a) :: List.replicate (n + 2 - 1) none = _
      rw [show n + 2 - 1 = n + 1 from rfl]; rfl
    rw [es]
    refine ⟨_, rfl, a, ns, rfl, hS, hl, fun so cl H1 gw hs hcn sa => ?_⟩
    refine ⟨⟨⟨K, ct, some (so, cl)⟩, fun b => b = so ∨ b = cl, fun b => if b = so ∨ b = cl then H1 b else none, fun _ => False⟩, rfl, rfl, rfl, fun b hb => ?_, fun b => b = so ∨ b = cl, 2 ^ 19999 - c, _, _, ?_, hmm, fun _ _ _ _ z _ => z.elim, ?_, fun _ _ _ _ z _ => z.elim, fun _ _ _ _ z _ => z.elim, fun _ _ _ _ _ _ _ z _ _ => z.elim⟩
    · by_cases hb' : b = so ∨ b = cl
      · exact hb'
      · exact absurd (if_neg hb') hb
    · obtain ⟨cells, turn, ne, e1, e2, r⟩ := id sa
      have dm : ∀ b, (b = so ∨ b = cl) → H1 b ≠ none := fun b hb => by
        rcases hb with rfl | rfl
        · rw [e1]; exact fun z => nomatch z
        · rw [e2]; exact fun z => nomatch z
      refine ⟨⟨fun b hb => ?_, fun b hb => ?_, fun b hb => hb, fun b hb => .inl hb, dm, fun b o ns h => ?_, fun s' c' e => ?_⟩, ?_, fun i x o h2 h3 => ?_, fun i j p x y _ h2 o2 => ?_⟩
      · obtain ⟨s', c', e, z⟩ := hb
        cases e; exact z
      · show (if b = so ∨ b = cl then H1 b else none) ≠ none
        rw [if_pos hb]
        exact dm b hb
      · by_cases hb' : b = so ∨ b = cl
        · exact (if_pos hb' : (if b = so ∨ b = cl then H1 b else none) = _).symm.trans h
        · have := (if_neg hb' : (if b = so ∨ b = cl then H1 b else none) = _).symm.trans h
          cases this
      · cases e
        have : 2 ^ 19999 - c + c = 2 ^ 19999 := Nat.sub_add_cancel hc
        rw [this]; exact sa
      · simp
      · match i with
        | 0 => cases h2; trivial
        | 1 =>
          cases h2; cases h3
          exact ⟨_, rfl, .src rfl⟩
        | i + 2 =>
          have h2' : (List.replicate n Sl.un)[i]? = some x := h2
          rw [List.getElem?_replicate] at h2'
          split at h2'
          · cases h2'; trivial
          · cases h2'
      · match i with
        | 0 => cases h2; cases o2
        | 1 => cases h2; cases o2
        | i + 2 =>
          have h2' : (List.replicate n Sl.un)[i]? = some x := h2
          rw [List.getElem?_replicate] at h2'
          split at h2'
          · cases h2'; cases o2
          · cases h2'
    · rintro d v H' ⟨b, rfl, rfl⟩ _ _ r
      cases r
      exact hq H'
end Hm
set_option Elab.async false
set_option linter.all false
set_option maxRecDepth 100000
set_option maxHeartbeats 2000000
namespace Hm
open PySem L2 PySem.Spec PyProof.Rows

/-! ### a def that calls itself: so many levels -/
def mRec (k n : Nat) (ms : MF → MS) : Nat → MF
  | 0 => fun _ _ _ => False
  | i + 1 => mFun k n (ms (mRec k n ms i))
theorem mRec_zero {k n : Nat} {ms : MF → MS} : mRec k n ms 0 = fun _ _ _ => False := Eq.trans rfl rfl
theorem mRec_succ {k n i : Nat} {ms : MF → MS} : mRec k n ms (i + 1) = mFun k n (ms (mRec k n ms i)) := Eq.trans rfl rfl
theorem fn_rec {P : Program} {w : World} {K : PySem.W.Frag} {mg : Str → Option Value} {base : Heap} {ct : Str → Option Addr} {x qual : Str} {st : Stmt} {fa : Addr} {fd : FuncData} {N ps : List Str} {b : Nat} {ms : MF → MS} (F : Fun K x qual st fa fd) (S : FnScope N ps (defScope st))
    (body : ∀ (j : Nat) (m : MF), b ≤ j → FnD P w K mg base ct j fa fd ps 0 m → ∀ (cdv : Value) (A : Around) (outer : List Env) (s : Shared) (H : Hp) (E : XK) (f : FrC), f.g.K = K → f.g.ct = ct → (f.N = fun _ => False) → Room j (A.deeper (envOfC qual (defScope st) s.heap.objs.size fa cdv)) →
      CB f (cxOf (L2.CX P w) P w K mg base N qual (defScope st) fa cdv A outer s H E) (fun cls d _ H => E cls d H) 0 (defBody st) (ms m)) : ∀ i : Nat, FnD P w K mg base ct (b + i + 1) fa fd ps 0 (mRec ps.length N.length ms i) := by
  intro i
  induction i with
  | zero =>
    refine F.okX S (fun vs H Q E h => ?_) (fun cdv A outer s H vs Q E hr h => ?_)
    · obtain ⟨src, B, n, ds, Q0, W0, h1, h2, h3, h4, h5, _⟩ := h
      exact h5.elim
    · obtain ⟨src, B, n, ds, Q0, W0, h1, h2, h3, h4, h5, _⟩ := h
      exact h5.elim
  | succ i ih => exact fn_data (k := b + i + 1) F S fun cdv A outer s H E f hK hct hn hr => body (b + i + 1) _ (by omega) ih cdv A outer s H E f hK hct hn hr

/-! ### [e for x in a for y in b], no draws within -/
section
variable {K : PySem.W.Frag} {a : Addr} {xs : List V} {Body : V → Hp → (Hp → Prop) → Prop} {H0 : Hp} {Qd : Hp → Prop}
theorem walkL (Pv : Nat → Hp → Prop) (h0 : Pv 0 H0) (hl : ∀ i H, i ≤ xs.length → Pv i H → SqL K H a xs) (hs : ∀ i x H, xs[i]? = some x → Pv i H → Body x H (Pv (i + 1))) (hd : ∀ H, Pv xs.length H → Qd H) :
    ∃ W : Nat → Nat → Hp → Prop, (∃ m, W 0 m H0) ∧ ∀ i m H, W i m H → ((Itl K a).stop i H ∧ Qd H) ∨ ((Itl K a).go i H ∧ ∃ Nx : Hp → Prop, (∀ H', Nx H' → ∃ m', m' < m ∧ W (i + 1) m' H') ∧ ∀ x H', (Itl K a).yld i H x H' → Body x H' Nx) := by
  refine ⟨fun i m H => m = xs.length - i ∧ i ≤ xs.length ∧ Pv i H, ⟨xs.length, by simp, Nat.zero_le _, h0⟩, ?_⟩
  rintro i m H ⟨rfl, hi, p⟩
  have q := hl i H hi p
  by_cases hlt : i < xs.length
  · refine .inr ⟨⟨xs, xs[i], q, by simp [hlt]⟩, Pv (i + 1), fun H' p' => ⟨xs.length - (i + 1), by omega, rfl, hlt, p'⟩, fun x H' y => ?_⟩
    obtain ⟨e, y⟩ := y
    subst e
    exact hs i x _ (y xs q) p
  · have e : i = xs.length := by omega
    subst e
    exact .inl ⟨⟨xs, q, Nat.le_refl _⟩, hd H p⟩
theorem walkR {lo : Int} {n : Nat} (Pv : Nat → Hp → Prop) (h0 : Pv 0 H0) (hs : ∀ i H, i < n → Pv i H → Body (.int (lo + (i : Nat))) H (Pv (i + 1))) (hd : ∀ H, Pv n H → Qd H) :
    ∃ W : Nat → Nat → Hp → Prop, (∃ m, W 0 m H0) ∧ ∀ i m H, W i m H → ((Itr lo n).stop i H ∧ Qd H) ∨ ((Itr lo n).go i H ∧ ∃ Nx : Hp → Prop, (∀ H', Nx H' → ∃ m', m' < m ∧ W (i + 1) m' H') ∧ ∀ x H', (Itr lo n).yld i H x H' → Body x H' Nx) := by
  refine ⟨fun i m H => m = n - i ∧ i ≤ n ∧ Pv i H, ⟨n, by simp, Nat.zero_le _, h0⟩, ?_⟩
  rintro i m H ⟨rfl, hi, p⟩
  by_cases hlt : i < n
  · refine .inr ⟨hlt, Pv (i + 1), fun H' p' => ⟨n - (i + 1), by omega, rfl, hlt, p'⟩, fun x H' y => ?_⟩
    obtain ⟨e, y⟩ := y
    subst e y
    exact hs i _ hlt p
  · have e : i = n := by omega
    subst e
    exact .inl ⟨Nat.le_refl _, hd H p⟩
end
def mLc2L (g : MG) (t : MT) (m1 : ME) (g1 : MG) (t1 : MT) (e : ME) (vs1 : List Nat) (ρ : Rho) : List D → List D → (List D → Prop) → Prop
  | [], acc, Q => Q acc
  | x :: r, acc, Q => g x ρ fun ρ' => t ρ' (fun b => if b = true then m1 ρ' (fun d => asL d fun ys => mLcL g1 t1 e (wipeD ρ' vs1) ys acc fun acc' => mLc2L g t m1 g1 t1 e vs1 ρ r acc' Q) (fun _ => False) else mLc2L g t m1 g1 t1 e vs1 ρ r acc Q) (fun _ => False)
theorem mLc2L_nil {g : MG} {t : MT} {m1 : ME} {g1 : MG} {t1 : MT} {e : ME} {vs1 : List Nat} {ρ : Rho} {acc : List D} {Q : List D → Prop} : mLc2L g t m1 g1 t1 e vs1 ρ [] acc Q = Q acc := Eq.trans rfl rfl
theorem mLc2L_cons {g : MG} {t : MT} {m1 : ME} {g1 : MG} {t1 : MT} {e : ME} {vs1 : List Nat} {ρ : Rho} {x : D} {r acc : List D} {Q : List D → Prop} : mLc2L g t m1 g1 t1 e vs1 ρ (x :: r) acc Q = (g x ρ fun ρ' => t ρ' (fun b => if b = true then m1 ρ' (fun d => asL d fun ys => mLcL g1 t1 e (wipeD ρ' vs1) ys acc fun acc' => mLc2L g t m1 g1 t1 e vs1 ρ r acc' Q) (fun _ => False) else mLc2L g t m1 g1 t1 e vs1 ρ r acc Q) (fun _ => False)) := Eq.trans rfl rfl
def mLc2 (it : ME) (g : MG) (t : MT) (m1 : ME) (g1 : MG) (t1 : MT) (e : ME) (vs vs1 : List Nat) : MA := fun ρ Q W => it ρ (fun d => asL d fun xs => mLc2L g t m1 g1 t1 e vs1 (wipeD ρ vs) xs [] Q) W
@[simp] theorem mLc2_eq (it : ME) (g : MG) (t : MT) (m1 : ME) (g1 : MG) (t1 : MT) (e : ME) (vs vs1 : List Nat) (ρ : Rho) (Q : List D → Prop) (W : XKD) : mLc2 it g t m1 g1 t1 e vs vs1 ρ Q W = it ρ (fun d => asL d fun xs => mLc2L g t m1 g1 t1 e vs1 (wipeD ρ vs) xs [] Q) W := Eq.trans rfl rfl
def mLc2R (it : ME) (g : MG) (t : MT) (m1 : ME) (g1 : MG) (t1 : MT) (e : ME) (vs vs1 : List Nat) : MA := fun ρ Q W => it ρ (fun d => asI d fun j => (-(2 ^ 62) ≤ j ∧ j < 2 ^ 62) ∧ mLc2L g t m1 g1 t1 e vs1 (wipeD ρ vs) (rngD 0 j.toNat) [] Q) W
@[simp] theorem mLc2R_eq (it : ME) (g : MG) (t : MT) (m1 : ME) (g1 : MG) (t1 : MT) (e : ME) (vs vs1 : List Nat) (ρ : Rho) (Q : List D → Prop) (W : XKD) : mLc2R it g t m1 g1 t1 e vs vs1 ρ Q W = it ρ (fun d => asI d fun j => (-(2 ^ 62) ≤ j ∧ j < 2 ^ 62) ∧ mLc2L g t m1 g1 t1 e vs1 (wipeD ρ vs) (rngD 0 j.toNat) [] Q) W := Eq.trans rfl rfl
/-- what is own behind the target was so ahead of it -/
def TgG (is : List Nat) (g : MG) : Prop := ∀ d ρ (Q : Rho → Prop), g d ρ Q → g d ρ fun ρ' => Q ρ' ∧ ∀ (i : Nat) x, ρ'[i]? = some x → x.isOwn = true → i ∉ is ∧ ρ[i]? = some x
theorem gg_name {i : Nat} : TgG [i] (gNm i) := fun d ρ Q h => ⟨h, fun j x h1 h2 => by
  rcases set_cases h1 with ⟨e1, e2, _⟩ | ⟨e1, h1⟩
  · subst e2; cases h2
  · exact ⟨by simp only [List.mem_singleton]; exact fun z => e1 z.symm, h1⟩⟩
theorem setAll_own : ∀ (is : List Nat) (ds : List D) (ρ : Rho), ds.length = is.length → ∀ (i : Nat) x, (setAll ρ is ds)[i]? = some x → x.isOwn = true → i ∉ is ∧ ρ[i]? = some x
  | [], [], ρ, _, i, x, h1, h2 => ⟨by simp, h1⟩
  | j :: is, d :: ds, ρ, e, i, x, h1, h2 => by
    obtain ⟨h3, h4⟩ := setAll_own is ds (ρ.set j (.dat d)) (by simpa using e) i x h1 h2
    rcases set_cases h4 with ⟨e1, e2, _⟩ | ⟨e1, h4⟩
    · subst e2; cases h2
    · exact ⟨by simp only [List.mem_cons, not_or]; exact ⟨fun z => e1 z.symm, h3⟩, h4⟩
theorem gg_tup {is : List Nat} : TgG is (gTp is) := fun d ρ Q h => by
  unfold gTp at h ⊢
  cases d with
  | tup ds =>
    obtain ⟨h1, h2⟩ := (show ds.length = is.length ∧ Q (setAll ρ is ds) from h)
    exact (show ds.length = is.length ∧ _ from ⟨h1, h2, setAll_own is ds ρ h1⟩)
  | _ => exact h
theorem wipeD_own {ρ : Rho} : ∀ (vs : List Nat) (i : Nat) x, (wipeD ρ vs)[i]? = some x → x.isOwn = true → i ∉ vs ∧ ρ[i]? = some x
  | [], i, x, h1, h2 => ⟨by simp, h1⟩
  | v :: vs, i, x, h1, h2 => by
    rcases set_cases (show ((wipeD ρ vs).set v .un)[i]? = some x from h1) with ⟨e1, e2, _⟩ | ⟨e1, h1⟩
    · subst e2; cases h2
    · obtain ⟨h3, h4⟩ := wipeD_own vs i x h1 h2
      exact ⟨by simp only [List.mem_cons, not_or]; exact ⟨fun z => e1 z.symm, h3⟩, h4⟩
section
variable {f : FrC} {X : Cx} {W : WX} {ca cb cc : Nat} {a b c : Expr} {ma mb me m1 : ME} {mt mt1 : MT} {pos : Pos} {B : Addr → Prop} {σ σ2 : L2.St} {H H' H1 : Hp} {ρ ρ2 : Rho} {n k : Nat} {Dl : Addr} {t t1 : TG} {g g1 : MG} {is is1 vs vs1 : List Nat} {Q0 : List D → Prop} {acc acc' : List D}
/-- the outer state behind the inner one -/
theorem LcS.follow (S : LcS f B σ ρ Dl H1 H n acc) (st : ∀ a o, a ≠ Dl → ¬ InS f.g a → H a = some o → H' a = some o) (S2 : LcS f B σ2 ρ2 Dl H1 H' k acc') : LcS f B σ ρ Dl H1 H' k acc' := by
  have mv : ∀ a o, H a = some o → ¬ (B a ∨ a = Dl) → H' a = some o ∧ ¬ (B a ∨ a = Dl) := fun a o h nb => ⟨st a o (fun z => nb (.inr z)) (fun z => nb (S.R.ok.inB z)) h, nb⟩
  refine ⟨⟨S2.R.ok, S.R.len, fun i x o h1 h2 => ?_, S.R.inj⟩, S.h0, S.no, S2.li, S2.kp, S.fr⟩
  have q := S.R.sl i x o h1 h2
  cases x with
  | un => trivial
  | dat d =>
    obtain ⟨v, e1, r⟩ := q
    exact ⟨v, e1, r.move mv⟩
  | own ds =>
    obtain ⟨p', ws, e1, b, h0, hp', r⟩ := q
    have ne : p' ≠ Dl := fun z => S.no i _ h1 rfl (by rw [h2, e1, z])
    exact ⟨p', ws, e1, b, h0, st _ _ ne (S.R.ok.nS h0) hp', r.move mv⟩
  | ownt ds =>
    obtain ⟨p', ws, e1, b, h0, hp', r⟩ := q
    have ne : p' ≠ Dl := fun z => S.no i _ h1 rfl (by rw [h2, e1, z])
    exact ⟨p', ws, e1, b, h0, st _ _ ne (S.R.ok.nS h0) hp', r.move mv⟩
  | kt d =>
    obtain ⟨v, e1, r⟩ := q
    exact ⟨v, e1, r.move mv⟩
  | ownd ds =>
    obtain ⟨p', ws, e1, b, h0, hp', r⟩ := q
    have ne : p' ≠ Dl := fun z => S.no i _ h1 rfl (by rw [h2, e1, z])
    exact ⟨p', ws, e1, b, h0, st _ _ ne (S.R.ok.nS h0) hp', r.move mv⟩
theorem lc2_turn {r : List D} {x : V} {d : D} {Pv : Hp → Prop} (K : PySem.W.Frag) (hG : TgG is g) (hd : TgD f is t g) (his : ∀ i ∈ is, i ∈ vs) (hd1 : TgD f is1 t1 g1) (his1 : ∀ i ∈ is1, i ∈ vs1) (S : LcS f B (L2.wipe σ vs) ρ Dl H1 H n acc) (rx : Rep f.g (fun a => B a ∨ a = Dl) H x d)
    (h : mLc2L g mt m1 g1 mt1 me vs1 ρ (d :: r) acc Q0) (next : ∀ acc' H', mLc2L g mt m1 g1 mt1 me vs1 ρ r acc' Q0 → LcS f B (L2.wipe σ vs) ρ Dl H1 H' n acc' → (∀ a o, a ≠ Dl → ¬ InS f.g a → H a = some o → H' a = some o) → Pv H') :
    t x (L2.wipe σ vs) H fun σ2 H2 => L2.wipe σ2 vs = L2.wipe σ vs ∧ RT f W0F 0 mt σ2 H2 fun b H3 =>
      if b = true then iList K (RD f W0F 0 m1) σ2 H3 fun J1 H4 => ∃ W1 : Nat → Nat → Hp → Prop, (∃ m, W1 0 m H4) ∧ ∀ j k H, W1 j k H →
        (J1.stop j H ∧ Pv H) ∨ (J1.go j H ∧ ∃ Nx1 : Hp → Prop, (∀ H', Nx1 H' → ∃ k', k' < k ∧ W1 (j + 1) k' H') ∧ ∀ x H', J1.yld j H x H' → t1 x (L2.wipe σ2 vs1) H' fun σ3 H5 => L2.wipe σ3 vs1 = L2.wipe σ2 vs1 ∧ RT f W0F 0 mt1 σ3 H5 fun b H6 =>
          if b = true then RD f W0F 0 me σ3 H6 fun y H7 => ∃ acc, H7 Dl = some (.lst acc) ∧ acc.length < sizeLine ∧ Nx1 (L2.upd H7 Dl (.lst (acc ++ [y]))) else Nx1 H6)
      else Pv H3 := by
  obtain ⟨av, hl, ra⟩ := S.li
  have nS : ¬ InS f.g Dl := S.R.ok.nS S.h0
  refine hd _ _ H ρ _ x d _ _ S.R rx (hG d ρ _ h) fun σ2 ρ2 q R2 ag => ⟨wipe_agr his ag, ?_⟩
  obtain ⟨q, qo⟩ := q
  refine rt_i (m := n) R2 q (fun b H3 h3 e3 R3 => ?_) fun x cls dd H' z _ _ _ => z.elim
  cases b with
  | false =>
    rw [if_neg Bool.false_ne_true] at h3 ⊢
    exact next _ _ h3 ⟨S.R.kp e3 R3.ok.src, S.h0, S.no, ⟨av, e3 _ _ nS hl, ra.kp S.R.ok e3⟩, S.kp.trans e3, S.fr⟩ fun a o _ ns ha => e3 a o ns ha
  | true =>
    rw [if_pos rfl] at h3 ⊢
    refine rd_i (m := n) R3 h3 (fun y v H4 h4 e4 R4 r4 => ?_) fun x cls dd H' z _ _ _ => z.elim
    obtain ⟨ys, rfl, h4⟩ := asL_is h4
    cases r4 with
    | @lst q ws _ hq nq rs =>
      have e : Kp f.g H H4 := e3.trans e4
      refine ⟨q, rfl, ⟨ws, .inl (.inl hq)⟩, ?_⟩
      have no2 : ∀ (i : Nat) x, (wipeD ρ2 vs1)[i]? = some x → x.isOwn = true → (L2.wipe σ2 vs1)[i]? ≠ some (some (.ref Dl)) := ?no2
      · have S0 : LcS f B (L2.wipe σ2 vs1) (wipeD ρ2 vs1) Dl H1 H4 n acc := ⟨R4.wipe vs1, S.h0, no2, ⟨av, e _ _ nS hl, ra.kp S.R.ok e⟩, S.kp.trans e, S.fr⟩
        refine walkL (K := K) (a := q) (xs := ws) (Qd := Pv) (Body := fun x H' Nx1 => t1 x (L2.wipe σ2 vs1) H' fun σ3 H5 => L2.wipe σ3 vs1 = L2.wipe σ2 vs1 ∧ RT f W0F 0 mt1 σ3 H5 fun b H6 =>
          if b = true then RD f W0F 0 me σ3 H6 fun y H7 => ∃ acc, H7 Dl = some (.lst acc) ∧ acc.length < sizeLine ∧ Nx1 (L2.upd H7 Dl (.lst (acc ++ [y]))) else Nx1 H6)
          (fun j H' => ∃ acc', LcS f B (L2.wipe σ2 vs1) (wipeD ρ2 vs1) Dl H1 H' n acc' ∧ mLcL g1 mt1 me (wipeD ρ2 vs1) (ys.drop j) acc' (fun acc' => mLc2L g mt m1 g1 mt1 me vs1 ρ r acc' Q0) ∧ H' q = some (.lst ws) ∧ Reps f.g (fun a => B a ∨ a = Dl) H' ws ys ∧ ∀ a o, a ≠ Dl → ¬ InS f.g a → H a = some o → H' a = some o)
          ⟨acc, S0, h4, hq, rs, fun a o _ ns ha => e a o ns ha⟩ (fun j H' _ ⟨_, _, _, z, _⟩ => .inl (.inl z)) (fun j x H' hj hP => ?_) (fun H' hP => ?_)
        · obtain ⟨acc', S', hf, hq', rs', st⟩ := hP
          have hlt : j < ws.length := (List.getElem?_eq_some_iff.mp hj).1
          have hds : j < ys.length := by rw [← rs.length]; exact hlt
          have ed : ys[j]? = some ys[j] := List.getElem?_eq_getElem hds
          obtain ⟨v2, ev, rv⟩ := rs'.get ed
          rw [hj] at ev
          cases ev
          rw [drop_get ed] at hf
          have nD : q ≠ Dl := fun z => nq (.inr z)
          have nSq : ¬ InS f.g q := fun z => nq (R4.ok.inB z)
          refine lc_turn (k := n) (ct := 0) (ce := 0) hd1 his1 S' rv hf fun acc2 H2 q2 S2 st2 => ⟨acc2, S2, q2, st2 q _ nD nSq hq', ?_, fun a o ne ns ha => st2 a o ne ns (st a o ne ns ha)⟩
          exact rs'.move fun a o h nb => ⟨st2 a o (fun z => nb (.inr z)) (fun z => nb (R4.ok.inB z)) h, nb⟩
        · obtain ⟨acc', S', hf, hq', rs', st⟩ := hP
          rw [rs.length, List.drop_length] at hf
          exact next _ _ hf (S.follow st S') st
      case no2 =>
        intro i x h1 h2 h3
        obtain ⟨z1, z2⟩ := wipeD_own vs1 i x h1 h2
        obtain ⟨z3, z4⟩ := qo i x z2 h2
        rw [wipe_get, if_neg z1, ag.2 i z3] at h3
        exact S.no i x z4 h2 h3
theorem rl_lc2L {H0 : Hp} {Q : VK} {p : Addr} {xs : List V} {ds : List D} (K : PySem.W.Frag) (hG : TgG is g) (hd : TgD f is t g) (his : ∀ i ∈ is, i ∈ vs) (hd1 : TgD f is1 t1 g1) (his1 : ∀ i ∈ is1, i ∈ vs1) (R : Rel f B σ H ρ n) (e : Kp f.g H0 H) (h : mLc2L g mt m1 g1 mt1 me vs1 (wipeD ρ vs) ds [] Q0)
    (hp : H p = some (.lst xs)) (nb : ¬ B p) (rs : Reps f.g B H xs ds)
    (hq : ∀ ds p vs H', Q0 ds → Kp f.g H0 H' → SrcOk f.g H' n → H0 p = none → H' p = some (.lst vs) → Reps f.g (fun a => B a ∨ a = p) H' vs ds → Q (.ref p) H') (hD : H Dl = none) :
    ∃ Wd : Nat → Nat → Hp → Prop, (∃ m, Wd 0 m (L2.upd H Dl (.lst []))) ∧ ∀ i m H, Wd i m H →
      ((Itl K p).stop i H ∧ Q (.ref Dl) H) ∨ ((Itl K p).go i H ∧ ∃ Nx : Hp → Prop, (∀ H', Nx H' → ∃ m', m' < m ∧ Wd (i + 1) m' H') ∧ ∀ x H', (Itl K p).yld i H x H' → t x (L2.wipe σ vs) H' fun σ2 H2 => L2.wipe σ2 vs = L2.wipe σ vs ∧ RT f W0F 0 mt σ2 H2 fun b H3 =>
      if b = true then iList K (RD f W0F 0 m1) σ2 H3 fun J1 H4 => ∃ W1 : Nat → Nat → Hp → Prop, (∃ m, W1 0 m H4) ∧ ∀ j k H, W1 j k H →
        (J1.stop j H ∧ Nx H) ∨ (J1.go j H ∧ ∃ Nx1 : Hp → Prop, (∀ H', Nx1 H' → ∃ k', k' < k ∧ W1 (j + 1) k' H') ∧ ∀ x H', J1.yld j H x H' → t1 x (L2.wipe σ2 vs1) H' fun σ3 H5 => L2.wipe σ3 vs1 = L2.wipe σ2 vs1 ∧ RT f W0F 0 mt1 σ3 H5 fun b H6 =>
          if b = true then RD f W0F 0 me σ3 H6 fun y H7 => ∃ acc, H7 Dl = some (.lst acc) ∧ acc.length < sizeLine ∧ Nx1 (L2.upd H7 Dl (.lst (acc ++ [y]))) else Nx1 H6)
      else Nx H3) := by
  have R' := R.wipe vs
  have nD : p ≠ Dl := ne_of_none hp hD
  have nS : ¬ InS f.g p := fun z => nb (R.ok.inB z)
  have gw : Gw H (L2.upd H Dl (.lst [])) := Gw.new hD
  refine walkL (K := K) (a := p) (xs := xs) (Qd := fun H => Q (.ref Dl) H) (Body := fun x H' Nx => t x (L2.wipe σ vs) H' fun σ2 H2 => L2.wipe σ2 vs = L2.wipe σ vs ∧ RT f W0F 0 mt σ2 H2 fun b H3 =>
      if b = true then iList K (RD f W0F 0 m1) σ2 H3 fun J1 H4 => ∃ W1 : Nat → Nat → Hp → Prop, (∃ m, W1 0 m H4) ∧ ∀ j k H, W1 j k H →
        (J1.stop j H ∧ Nx H) ∨ (J1.go j H ∧ ∃ Nx1 : Hp → Prop, (∀ H', Nx1 H' → ∃ k', k' < k ∧ W1 (j + 1) k' H') ∧ ∀ x H', J1.yld j H x H' → t1 x (L2.wipe σ2 vs1) H' fun σ3 H5 => L2.wipe σ3 vs1 = L2.wipe σ2 vs1 ∧ RT f W0F 0 mt1 σ3 H5 fun b H6 =>
          if b = true then RD f W0F 0 me σ3 H6 fun y H7 => ∃ acc, H7 Dl = some (.lst acc) ∧ acc.length < sizeLine ∧ Nx1 (L2.upd H7 Dl (.lst (acc ++ [y]))) else Nx1 H6)
      else Nx H3)
    (fun i H' => ∃ acc, LcS f B (L2.wipe σ vs) (wipeD ρ vs) Dl H H' n acc ∧ mLc2L g mt m1 g1 mt1 me vs1 (wipeD ρ vs) (ds.drop i) acc Q0 ∧ H' p = some (.lst xs) ∧ Reps f.g (fun a => B a ∨ a = Dl) H' xs ds)
    ⟨[], LcS.start R' hD, h, gw _ _ hp, (rs.avoid hD).grow gw⟩ (fun i H' _ ⟨_, _, _, h4, _⟩ => .inl (.inl h4)) (fun i x H' hi' hP => ?_) (fun H' hP => ?_)
  · obtain ⟨acc, S, hf, hp', rs'⟩ := hP
    have hlt : i < xs.length := (List.getElem?_eq_some_iff.mp hi').1
    have hds : i < ds.length := by rw [← rs.length]; exact hlt
    have ed : ds[i]? = some ds[i] := List.getElem?_eq_getElem hds
    obtain ⟨v2, ev, rv⟩ := rs'.get ed
    rw [hi'] at ev
    cases ev
    rw [drop_get ed] at hf
    refine lc2_turn K hG hd his hd1 his1 S rv hf fun acc' H2 q S' st => ⟨acc', S', q, st p _ nD nS hp', ?_⟩
    exact rs'.move fun a o h nb => ⟨st a o (fun z => nb (.inr z)) (fun z => nb (.inl (R.ok.inB z))) h, nb⟩
  · obtain ⟨acc, S, hf, _⟩ := hP
    rw [rs.length, List.drop_length] at hf
    exact lc_end S hf e R.ok (Nat.le_refl _) hq
theorem rl_lc2R {H0 : Hp} {Q : VK} {lo : Int} {len : Nat} (K : PySem.W.Frag) (hG : TgG is g) (hd : TgD f is t g) (his : ∀ i ∈ is, i ∈ vs) (hd1 : TgD f is1 t1 g1) (his1 : ∀ i ∈ is1, i ∈ vs1) (R : Rel f B σ H ρ n) (e : Kp f.g H0 H) (h : mLc2L g mt m1 g1 mt1 me vs1 (wipeD ρ vs) (rngD lo len) [] Q0)
    (hq : ∀ ds p vs H', Q0 ds → Kp f.g H0 H' → SrcOk f.g H' n → H0 p = none → H' p = some (.lst vs) → Reps f.g (fun a => B a ∨ a = p) H' vs ds → Q (.ref p) H') (hD : H Dl = none) :
    ∃ Wd : Nat → Nat → Hp → Prop, (∃ m, Wd 0 m (L2.upd H Dl (.lst []))) ∧ ∀ i m H, Wd i m H →
      ((Itr lo len).stop i H ∧ Q (.ref Dl) H) ∨ ((Itr lo len).go i H ∧ ∃ Nx : Hp → Prop, (∀ H', Nx H' → ∃ m', m' < m ∧ Wd (i + 1) m' H') ∧ ∀ x H', (Itr lo len).yld i H x H' → t x (L2.wipe σ vs) H' fun σ2 H2 => L2.wipe σ2 vs = L2.wipe σ vs ∧ RT f W0F 0 mt σ2 H2 fun b H3 =>
      if b = true then iList K (RD f W0F 0 m1) σ2 H3 fun J1 H4 => ∃ W1 : Nat → Nat → Hp → Prop, (∃ m, W1 0 m H4) ∧ ∀ j k H, W1 j k H →
        (J1.stop j H ∧ Nx H) ∨ (J1.go j H ∧ ∃ Nx1 : Hp → Prop, (∀ H', Nx1 H' → ∃ k', k' < k ∧ W1 (j + 1) k' H') ∧ ∀ x H', J1.yld j H x H' → t1 x (L2.wipe σ2 vs1) H' fun σ3 H5 => L2.wipe σ3 vs1 = L2.wipe σ2 vs1 ∧ RT f W0F 0 mt1 σ3 H5 fun b H6 =>
          if b = true then RD f W0F 0 me σ3 H6 fun y H7 => ∃ acc, H7 Dl = some (.lst acc) ∧ acc.length < sizeLine ∧ Nx1 (L2.upd H7 Dl (.lst (acc ++ [y]))) else Nx1 H6)
      else Nx H3) := by
  have R' := R.wipe vs
  refine walkR (lo := lo) (n := len) (Qd := fun H => Q (.ref Dl) H) (Body := fun x H' Nx => t x (L2.wipe σ vs) H' fun σ2 H2 => L2.wipe σ2 vs = L2.wipe σ vs ∧ RT f W0F 0 mt σ2 H2 fun b H3 =>
      if b = true then iList K (RD f W0F 0 m1) σ2 H3 fun J1 H4 => ∃ W1 : Nat → Nat → Hp → Prop, (∃ m, W1 0 m H4) ∧ ∀ j k H, W1 j k H →
        (J1.stop j H ∧ Nx H) ∨ (J1.go j H ∧ ∃ Nx1 : Hp → Prop, (∀ H', Nx1 H' → ∃ k', k' < k ∧ W1 (j + 1) k' H') ∧ ∀ x H', J1.yld j H x H' → t1 x (L2.wipe σ2 vs1) H' fun σ3 H5 => L2.wipe σ3 vs1 = L2.wipe σ2 vs1 ∧ RT f W0F 0 mt1 σ3 H5 fun b H6 =>
          if b = true then RD f W0F 0 me σ3 H6 fun y H7 => ∃ acc, H7 Dl = some (.lst acc) ∧ acc.length < sizeLine ∧ Nx1 (L2.upd H7 Dl (.lst (acc ++ [y]))) else Nx1 H6)
      else Nx H3)
    (fun i H' => ∃ acc, LcS f B (L2.wipe σ vs) (wipeD ρ vs) Dl H H' n acc ∧ mLc2L g mt m1 g1 mt1 me vs1 (wipeD ρ vs) ((rngD lo len).drop i) acc Q0)
    ⟨[], LcS.start R' hD, h⟩ (fun i H' hi' hP => ?_) (fun H' hP => ?_)
  · obtain ⟨acc, S, hf⟩ := hP
    rw [rng_drop hi'] at hf
    exact lc2_turn K hG hd his hd1 his1 S (.int _) hf fun acc' H2 q S' st => ⟨acc', S', q⟩
  · obtain ⟨acc, S, hf⟩ := hP
    have e0 : (rngD lo len).drop len = [] := List.drop_of_length_le (by unfold rngD; rw [List.length_map, List.length_range]; exact Nat.le_refl _)
    rw [e0] at hf
    exact lc_end S hf e R.ok (Nat.le_refl _) hq
/-- the parts of a comprehension of two clauses, under its block -/
structure LcQ (f : FrC) (X : Cx) (scope : Scope) (own : List (Str × Nat)) (vs1 : List Nat) (tg : Expr) (ifs : List Expr) (tg1 iter1 : Expr) (ifs1 : List Expr) (elt : Expr) (t : TG) (is : List Nat) (g : MG) (mt : MT) (m1 : ME) (t1 : TG) (is1 : List Nat) (g1 : MG) (mt1 : MT) (me : ME) : Prop where
  ok : BlkOk X.N X.env.scope scope own
  hv : ∀ i ∈ vs1, i ∈ own.map (·.2)
  hg : ∀ (s : Shared) (H : Hp) (C : Addr) (cl : List (Str × Addr)) (fp : List Addr), PG (X.blk s H scope (compEnvC scope cl C X.env) fp) tg t
  hG : TgG is g
  hd : TgD f is t g
  hi : ∀ i ∈ is, i ∈ own.map (·.2)
  ht : ∀ (s : Shared) (H : Hp) (C : Addr) (cl : List (Str × Addr)) (fp : List Addr), PTs (X.blk s H scope (compEnvC scope cl C X.env) fp) ifs (RT f W0F 0 mt)
  hi1 : ∀ (s : Shared) (H : Hp) (C : Addr) (cl : List (Str × Addr)) (fp : List Addr), PE (X.blk s H scope (compEnvC scope cl C X.env) fp) iter1 (RD f W0F 0 m1)
  hg1 : ∀ (s : Shared) (H : Hp) (C : Addr) (cl : List (Str × Addr)) (fp : List Addr), PG (X.blk s H scope (compEnvC scope cl C X.env) fp) tg1 t1
  hd1 : TgD f is1 t1 g1
  hj1 : ∀ i ∈ is1, i ∈ vs1
  ht1 : ∀ (s : Shared) (H : Hp) (C : Addr) (cl : List (Str × Addr)) (fp : List Addr), PTs (X.blk s H scope (compEnvC scope cl C X.env) fp) ifs1 (RT f W0F 0 mt1)
  he : ∀ (s : Shared) (H : Hp) (C : Addr) (cl : List (Str × Addr)) (fp : List Addr), PE (X.blk s H scope (compEnvC scope cl C X.env) fp) elt (RD f W0F 0 me)
variable {scope : Scope} {own : List (Str × Nat)} {tg elt tg1 iter iter1 : Expr} {ifs ifs1 : List Expr}
structure LcJ (f : FrC) (X : Cx) (W : WX) (tg iter : Expr) (t : TG) (g : MG) (mt : MT) (m1 : ME) (t1 : TG) (g1 : MG) (mt1 : MT) (me : ME) (own : List (Str × Nat)) (vs1 : List Nat) (c : Nat) (m : MA) : Prop where
  ex : ∃ wi, PI X tg iter wi ∧ ∀ σ H Q, RL f W c m σ H Q → tLc2 wi t (RT f W0F 0 mt) (iList X.K (RD f W0F 0 m1)) t1 (RT f W0F 0 mt1) (RD f W0F 0 me) (own.map (·.2)) vs1 σ H Q
theorem lj_list (P : LcQ f X scope own vs1 tg ifs tg1 iter1 ifs1 elt t is g mt m1 t1 is1 g1 mt1 me) (hi : CE f X W ca a ma) : LcJ f X W tg a t g mt m1 t1 g1 mt1 me own vs1 ca (mLc2 ma g mt m1 g1 mt1 me (own.map (·.2)) vs1) := ⟨_, pi_list hi, fun σ H Q h => by
  obtain ⟨B, n, ρ, Q0, W0, R, hm, hq, hw⟩ := h
  refine rd_i (m := n) R hm (fun d v H1 h1 e1 R1 r1 => ?_) hw
  cases r1 with
  | lst hp nb rs => exact ⟨_, rfl, ⟨_, .inl (.inl hp)⟩, fun Dl hD => rl_lc2L X.K P.hG P.hd P.hi P.hd1 P.hj1 R1 e1 h1 hp nb rs hq hD⟩
  | _ => exact h1.elim⟩
theorem lj_range1 {p cpos : Pos} (P : LcQ f X scope own vs1 tg ifs tg1 iter1 ifs1 elt t is g mt m1 t1 is1 g1 mt1 me) (hgl : Gl X "range") (hmg : X.mg "range" = none) (hi : CE f X W ca a ma) (ha : starEach [a] X.env = [(false, eval a X.env)] := by rfl) :
    LcJ f X W tg (.Call (.Name "range" p) [a] [] cpos) t g mt m1 t1 g1 mt1 me own vs1 ca (mLc2R ma g mt m1 g1 mt1 me (own.map (·.2)) vs1) := ⟨_, pi_range1 hgl hmg (pa_cons hi pa_nil ha) ha, fun σ H Q h => by
  obtain ⟨B, n, ρ, Q0, W0, R, hm, hq, hw⟩ := h
  refine rd_i (m := n) R hm (fun d v H1 h1 e1 R1 r1 => ?_) hw
  cases r1 with
  | int j => exact ⟨j, rfl, h1.1.1, h1.1.2, fun Dl hD => rl_lc2R X.K P.hG P.hd P.hi P.hd1 P.hj1 R1 e1 h1.2 hq hD⟩
  | _ => exact h1.elim⟩
theorem cl_lc2 {mm : MA} (hc : X.calm = true) (hN : X.N.Nodup) (P : LcQ f X scope own vs1 tg ifs tg1 iter1 ifs1 elt t is g mt m1 t1 is1 g1 mt1 me) (I : LcJ f X W tg iter t g mt m1 t1 g1 mt1 me own vs1 cc mm) (hs : ∀ x, foldedSetIterable iter X.env x = pure x := by intro _; rfl) (hs1 : ∀ env x, foldedSetIterable iter1 env x = pure x := by intro _ _; rfl) :
    CL f X W cc (.ListComp elt [⟨tg, iter, ifs, 0⟩, ⟨tg1, iter1, ifs1, 0⟩] scope pos) mm := by
  obtain ⟨wi, hi, k⟩ := I.ex
  exact PE.imp (pe_lc2 (wi1 := iList X.K (RD f W0F 0 m1)) hc hN hi P.ok P.hv P.hg P.ht (fun s H C cl fp => (pi_list (P.hi1 s H C cl fp) : PI (X.blk s H scope (compEnvC scope cl C X.env) fp) tg1 iter1 (iList X.K (RD f W0F 0 m1)))) P.hg1 P.ht1 P.he hs hs1) k
theorem cs_asgLc2 {mm : MA} {i : Nat} {y : Str} {py spos : Pos} (hc : X.calm = true) (hN : X.N.Nodup) (P : LcQ f X scope own vs1 tg ifs tg1 iter1 ifs1 elt t is g mt m1 t1 is1 g1 mt1 me) (I : LcJ f X W tg iter t g mt m1 t1 g1 mt1 me own vs1 cc mm)
    (hsw : swapsWith (.ListComp elt [⟨tg, iter, ifs, 0⟩, ⟨tg1, iter1, ifs1, 0⟩] scope pos) (some (.Name y py)) spos.line X.env = pure true) (hy : X.N[i]? = some y := by rfl) (hyl : X.env.scope.names.lookup y = some .local := by rfl) (hs : ∀ x, foldedSetIterable iter X.env x = pure x := by intro _; rfl) (hs1 : ∀ env x, foldedSetIterable iter1 env x = pure x := by intro _ _; rfl) :
    CS f X W cc (.Assign [.Name y py] (.ListComp elt [⟨tg, iter, ifs, 0⟩, ⟨tg1, iter1, ifs1, 0⟩] scope pos) spos) (mAsg i (mFrz mm)) := by
  obtain ⟨wi, hi, k⟩ := I.ex
  refine PS.imp (ps_setLc2 (wi1 := iList X.K (RD f W0F 0 m1)) (i := i) hc hN hy hyl hsw hi P.ok P.hv P.hg P.ht (fun s H C cl fp => (pi_list (P.hi1 s H C cl fp) : PI (X.blk s H scope (compEnvC scope cl C X.env) fp) tg1 iter1 (iList X.K (RD f W0F 0 m1)))) P.hg1 P.ht1 P.he hs hs1) fun De σ H h => ?_
  obtain ⟨B, n, ρ, E, R, hm, hn, hr, hb, hcc, hx⟩ := h
  refine k σ H _ ⟨B, n, ρ, _, E.ex ρ, R, hm, fun ds p vs H' q e s hp h1 r => ?_, fun x cls dd H' q e s er => hx B x cls dd σ H' ρ q (R.kp e s) er⟩
  exact hn B _ H' _ q ((R.kp e s).set (.lst h1 (nB R.ok.dom hp) r.free))
end
end Hm
set_option Elab.async false
set_option linter.all false
set_option maxRecDepth 100000
set_option maxHeartbeats 2000000
namespace Hm
open PySem L2 PySem.Spec PyProof.Rows

theorem fn_recC {P : Program} {w : World} {K : PySem.W.Frag} {mg : Str → Option Value} {base : Heap} {ct : Str → Option Addr} {x qual : Str} {st : Stmt} {fa : Addr} {fd : FuncData} {N ps : List Str} {b c : Nat} {ms : MF → MS} (F : Fun K x qual st fa fd) (S : FnScope N ps (defScope st))
    (body : ∀ (j : Nat) (m : MF), b ≤ j → FnD P w K mg base ct j fa fd ps 0 m → ∀ (cdv : Value) (A : Around) (outer : List Env) (s : Shared) (H : Hp) (E : XK) (f : FrC), f.g.K = K → f.g.ct = ct → (f.N = fun _ => False) → Room j (A.deeper (envOfC qual (defScope st) s.heap.objs.size fa cdv)) →
      CB f (cxOf (L2.CX P w) P w K mg base N qual (defScope st) fa cdv A outer s H E) (fun cls d _ H => E cls d H) c (defBody st) (ms m)) (i : Nat) (hc : c = 0 := by rfl) : FnD P w K mg base ct (b + i + 1) fa fd ps 0 (mRec ps.length N.length ms i) := by
  subst hc
  exact fn_rec F S body i
/-! ### a, b, c = x, y, z; a, b = [], []; *x; enumerate -/
def three (ds : List D) (k : D → D → D → Prop) : Prop := match ds with
  | [x, y, z] => k x y z
  | _ => False
@[simp] theorem three_eq {x y z : D} {k : D → D → D → Prop} : three [x, y, z] k = k x y z := Eq.trans rfl rfl
theorem three_is {ds : List D} {k : D → D → D → Prop} (h : three ds k) : ∃ x y z, ds = [x, y, z] ∧ k x y z := by
  unfold three at h
  split at h
  · exact ⟨_, _, _, rfl, h⟩
  · exact h.elim
def mPar3 (i j l : Nat) (mas : MA) : MS := fun ρ E => mas ρ (fun ds => three ds fun x y z => E.nx (((ρ.set i (.dat x)).set j (.dat y)).set l (.dat z))) (E.ex ρ)
@[simp] theorem mPar3_eq (i j l : Nat) (mas : MA) (ρ : Rho) (E : DEnds) : mPar3 i j l mas ρ E = mas ρ (fun ds => three ds fun x y z => E.nx (((ρ.set i (.dat x)).set j (.dat y)).set l (.dat z))) (E.ex ρ) := Eq.trans rfl rfl
def mParOO (i j : Nat) : MS := fun ρ E => E.nx ((ρ.set i (.own [])).set j (.own []))
@[simp] theorem mParOO_eq (i j : Nat) (ρ : Rho) (E : DEnds) : mParOO i j ρ E = E.nx ((ρ.set i (.own [])).set j (.own [])) := Eq.trans rfl rfl
def asS : D → (List D → Prop) → Prop
  | .lst xs, Q => Q xs
  | .tup xs, Q => Q xs
  | _, _ => False
@[simp] theorem asS_l {xs : List D} {Q : List D → Prop} : asS (.lst xs) Q = Q xs := Eq.trans rfl rfl
@[simp] theorem asS_t {xs : List D} {Q : List D → Prop} : asS (.tup xs) Q = Q xs := Eq.trans rfl rfl
def mStar (a : ME) (r : MA) : MA := fun ρ Q W => a ρ (fun d => asS d fun xs => r ρ (fun ys => Q (xs ++ ys)) W) W
@[simp] theorem mStar_eq (a : ME) (r : MA) (ρ : Rho) (Q : List D → Prop) (W : XKD) : mStar a r ρ Q W = a ρ (fun d => asS d fun xs => r ρ (fun ys => Q (xs ++ ys)) W) W := Eq.trans rfl rfl
def enumD (i : Nat) : List D → List D
  | [] => []
  | x :: r => .tup [.int (i : Nat), x] :: enumD (i + 1) r
@[simp] theorem enumD_nil {i : Nat} : enumD i [] = [] := Eq.trans rfl rfl
@[simp] theorem enumD_cons {i : Nat} {x : D} {r : List D} : enumD i (x :: r) = .tup [.int (i : Nat), x] :: enumD (i + 1) r := Eq.trans rfl rfl
theorem enumD_length : ∀ {xs : List D} {i : Nat}, (enumD i xs).length = xs.length
  | [], _ => rfl
  | _ :: r, i => by rw [enumD_cons, List.length_cons, List.length_cons, enumD_length]
theorem enumD_get : ∀ {xs : List D} {i j : Nat} {d : D}, xs[j]? = some d → (enumD i xs)[j]? = some (.tup [.int ((i + j : Nat) : Int), d])
  | [], _, _, _, h => by simp at h
  | x :: r, i, 0, d, h => by simp at h; subst h; simp
  | x :: r, i, j + 1, d, h => by
    have := enumD_get (xs := r) (i := i + 1) (j := j) (d := d) (by simpa using h)
    rw [enumD_cons, List.getElem?_cons_succ, this]
    congr 5
    omega
def mForE (it : ME) (g : MG) (body : MS) : MS := fun ρ E => it ρ (fun d => asL d fun xs => mForL g body (enumD 0 xs) ρ E) (E.ex ρ)
@[simp] theorem mForE_eq (it : ME) (g : MG) (body : MS) (ρ : Rho) (E : DEnds) : mForE it g body ρ E = it ρ (fun d => asL d fun xs => mForL g body (enumD 0 xs) ρ E) (E.ex ρ) := Eq.trans rfl rfl
def mLcE (it : ME) (g : MG) (t : MT) (e : ME) (vs : List Nat) : MA := fun ρ Q W => it ρ (fun d => asL d fun xs => mLcL g t e (wipeD ρ vs) (enumD 0 xs) [] Q) W
@[simp] theorem mLcE_eq (it : ME) (g : MG) (t : MT) (e : ME) (vs : List Nat) (ρ : Rho) (Q : List D → Prop) (W : XKD) : mLcE it g t e vs ρ Q W = it ρ (fun d => asL d fun xs => mLcL g t e (wipeD ρ vs) (enumD 0 xs) [] Q) W := Eq.trans rfl rfl
section
variable {f : FrC} {X : Cx} {W : WX} {ca cb cc ct ce : Nat} {a b c : Expr} {es : List Expr} {ma mb mc me : ME} {mt : MT} {mas : MA} {pos : Pos} {ms : MS} {body : List Stmt} {B : Addr → Prop} {σ : L2.St} {H : Hp} {ρ : Rho} {n : Nat}
theorem cs_par3 {i j l : Nat} {x y z : Str} {px py pz pt : Pos} {kt k2 pt2} (hc : X.calm = true) (hN : X.N.Nodup) (hij : i ≠ j) (hil : i ≠ l) (hjl : j ≠ l) (ha : CA f X W ca [a, b, c] mas) (hi : X.N[i]? = some x := by rfl) (hj : X.N[j]? = some y := by rfl) (hl : X.N[l]? = some z := by rfl)
    (hx : X.env.scope.names.lookup x = some .local := by rfl) (hy : X.env.scope.names.lookup y = some .local := by rfl) (hz : X.env.scope.names.lookup z = some .local := by rfl)
    (hw : swappedStores [.Tuple [.Name x px, .Name y py, .Name z pz] kt pt] (.Tuple [a, b, c] k2 pt2) X.env = pure (some [x, y, z]) := by rfl)
    (hs : swapsWithSole [.Tuple [.Name x px, .Name y py, .Name z pz] kt pt] (.Tuple [a, b, c] k2 pt2) pos.line X.env = pure false := by rfl) :
    CS f X W ca (.Assign [.Tuple [.Name x px, .Name y py, .Name z pz] kt pt] (.Tuple [a, b, c] k2 pt2) pos) (mPar3 i j l mas) :=
  PS.imp (ps_par3 (i := i) (j := j) (l := l) hc hN hi hj hl hij hil hjl hx hy hz ha hw hs) fun D σ H h => by
    obtain ⟨B, n, ρ, E, R, hm, hn, hr, hb, hc, hx⟩ := h
    refine ra_i (m := n) R hm (fun ds vs H1 h1 e1 R1 r1 => ?_) fun x cls dd H' q e s er => hx B x cls dd σ H' ρ q (R.kp e s) er
    obtain ⟨d1, d2, d3, rfl, h1⟩ := three_is h1
    cases r1 with
    | cons r1 t1 =>
      cases t1 with
      | cons r2 t2 =>
        cases t2 with
        | cons r3 t3 =>
          cases t3
          exact ⟨_, _, _, rfl, hn B _ H1 _ h1 (((R1.set r1).set r2).set r3)⟩
theorem cs_parOO {i j : Nat} {x y : Str} {px py pt lp lq : Pos} {kt k2 pt2} (hc : X.calm = true) (hN : X.N.Nodup) (hij : i ≠ j) (hi : X.N[i]? = some x := by rfl) (hj : X.N[j]? = some y := by rfl)
    (hx : X.env.scope.names.lookup x = some .local := by rfl) (hy : X.env.scope.names.lookup y = some .local := by rfl)
    (hw : swappedStores [.Tuple [.Name x px, .Name y py] kt pt] (.Tuple [.List [] lp, .List [] lq] k2 pt2) X.env = pure (some [x, y]) := by rfl)
    (hs : swapsWithSole [.Tuple [.Name x px, .Name y py] kt pt] (.Tuple [.List [] lp, .List [] lq] k2 pt2) pos.line X.env = pure false := by rfl) (ea : starEach [.List [] lp, .List [] lq] X.env = (false, eval (.List [] lp) X.env) :: starEach [.List [] lq] X.env := by rfl) (eb : starEach [.List [] lq] X.env = (false, eval (.List [] lq) X.env) :: starEach [] X.env := by rfl) :
    CS f X W 0 (.Assign [.Tuple [.Name x px, .Name y py] kt pt] (.Tuple [.List [] lp, .List [] lq] k2 pt2) pos) (mParOO i j) :=
  PS.imp (ps_par (i := i) (j := j) hc hN hi hj hij hx hy (pa_cons (pe_lst pa_nil) (pa_cons (pe_lst pa_nil) pa_nil eb) ea) hw hs) fun D σ H h => by
    obtain ⟨B, n, ρ, E, R, hm, hn, hr, hb, hc, hx⟩ := h
    refine ⟨Nat.zero_le _, fun p hp => ?_⟩
    have R0 := R.hide (o := .lst []) hp
    refine ⟨Nat.zero_le _, fun q hq => ?_⟩
    have R1 := R0.hide (o := .lst []) hq
    have nq : q ≠ p := fun z => by rw [z, upd_same] at hq; cases hq
    refine ⟨_, _, rfl, hn _ _ _ _ hm (Rel.setOwnB (vs := []) (ds := []) (Rel.setOwnB (vs := []) (ds := []) R1 (.inl (.inr rfl)) (R.ok.h0 hp) (R.noSlot hp) ?_ .nil) (.inr rfl) (R0.ok.h0 hq) (fun k x h1 h2 h3 => ?_) upd_same .nil)⟩
    · rw [upd_ne (fun z : p = q => nq z.symm)]; exact upd_same
    · rcases set_cases h1 with ⟨e1, e2, hl⟩ | ⟨e1, h1⟩
      · subst e1
        rw [List.getElem?_set_self (by rw [R.len]; exact hl)] at h3
        cases h3
        exact nq rfl
      · rw [List.getElem?_set_ne e1] at h3
        exact R0.noSlot hq k x h1 h2 h3
theorem ca_star {p : Pos} (hK : f.g.K = X.K) (ha : CE f X W ca a ma) (hr : CA f X W cb es mas) (hs : starEach (.Starred a p :: es) X.env = (true, eval a X.env) :: starEach es X.env := by rfl) : CA f X W (ca + cb) (.Starred a p :: es) (mStar ma mas) :=
  PA.imp (StX.pa_star ha hr hs) fun σ H Q h => by
    obtain ⟨B, n, ρ, Q0, W0, R, hm, hq, hw⟩ := h
    refine rd_i (m := n + cb) (R.mono (by omega)) hm (fun x v H1 h1 e1 R1 r1 => ?_) (fun x cls dd H' q e s er => hw x cls dd H' q e (s.mono (by omega)) er)
    cases r1 with
    | tup h2 nb rs => exact ⟨_, _, rfl, .inl (.inl (.inl h2)), ra_i (m := n) R1 h1 (fun y v2 H2 h2 e2 R2 r2 => hq _ _ H2 h2 (e1.trans e2) R2.ok.src ((rs.kp R1.ok e2).append r2)) (fun x cls dd H' q e s er => hw x cls dd H' q (e1.trans e) s er)⟩
    | wtup h2 rs => exact ⟨_, _, rfl, .inl (.inr (hK ▸ h2)), ra_i (m := n) R1 h1 (fun y v2 H2 h2 e2 R2 r2 => hq _ _ H2 h2 (e1.trans e2) R2.ok.src ((rs.kp R1.ok e2).append r2)) (fun x cls dd H' q e s er => hw x cls dd H' q (e1.trans e) s er)⟩
    | lst h2 nb rs => exact ⟨_, _, rfl, .inr (.inl (.inl h2)), ra_i (m := n) R1 h1 (fun y v2 H2 h2 e2 R2 r2 => hq _ _ H2 h2 (e1.trans e2) R2.ok.src ((rs.kp R1.ok e2).append r2)) (fun x cls dd H' q e s er => hw x cls dd H' q (e1.trans e) s er)⟩
    | _ => exact h1.elim
/-- for i, x in enumerate(xs), no draws within -/
theorem cs_forE {elts : List Expr} {kk : Nat} {p cpos tpos : Pos} {t : TG} {g : MG} (hp : PassesOwn (model X.prog X.w) X.A X.env X.xe) (hc : X.calm = true) (hgl : Gl X "enumerate") (hmg : X.mg "enumerate" = none) (hi : CE f X W ca a ma) (hg : PG X (.Tuple elts kk tpos) t) (hd : TgDs f t g) (hb : CBs f X W cb body ms)
    (ha : starEach [a] X.env = [(false, eval a X.env)] := by rfl) (hs : ∀ x, foldedSetIterable (.Call (.Name "enumerate" p) [a] [] cpos) X.env x = pure x := by intro _; rfl) (h0 : cb = 0 := by rfl) : CS f X W ca (.For (.Tuple elts kk tpos) (.Call (.Name "enumerate" p) [a] [] cpos) body [] pos) (mForE ma g ms) := by
  subst h0; exact
  PS.imp (ps_for hp hc (pi_enum hgl hmg (pa_cons hi pa_nil ha) ha) hg hb.ps hs) fun De σ H h => by
    obtain ⟨B, n, ρ, E, R, hm, hn, hr, hbk, hct, hx⟩ := h
    refine rd_i (m := n) R hm (fun d v H1 h1 e1 R1 r1 => ?_) fun x cls dd H' q e s er => hx B x cls dd σ H' ρ q (R.kp e s) er
    cases r1 with
    | @lst q ws ds hq nb rs =>
      refine ⟨q, ws, rfl, .inl (.inl hq), ?_⟩
      refine for_it (walk_enum (K := X.K) (a := q) (xs := ws)) (tb := RSs f W 0 ms) (fun i σ' H' => ∃ B' ρ', Rel f B' σ' H' ρ' n ∧ mForL g ms ((enumD 0 ds).drop i) ρ' E ∧ H' q = some (.lst ws) ∧ ¬ B' q ∧ Reps f.g B' H' ws ds)
        ⟨B, ρ, R1, h1, hq, nb, rs⟩ (fun i σ' H' _ ⟨_, _, _, _, h4, _⟩ => .inl (.inl h4)) (fun i x σ' H' H2 hlt hP hY => ?_) (fun σ' H' hP => ?_)
      · obtain ⟨B', ρ', R', hf, ha', nb', rs'⟩ := hP
        obtain ⟨T, x1, y1, rfl, hT, rfl, hx1, hy1⟩ := hY
        cases hx1
        have gw : Gw H' (L2.upd H' T (.tup [.int (i : Nat), y1])) := Gw.new hT
        have hds : i < ds.length := by rw [← rs.length]; exact hlt
        have ed : ds[i]? = some ds[i] := List.getElem?_eq_getElem hds
        obtain ⟨v2, ev, rv⟩ := rs'.get ed
        rw [show ws[i]? = some y1 from hy1] at ev
        cases ev
        have ee := enumD_get (i := 0) ed
        rw [Nat.zero_add] at ee
        rw [drop_get ee] at hf
        have R2 : Rel f B' σ' (L2.upd H' T (.tup [.int (i : Nat), y1])) ρ' (n + 0 + 0) := R'.kp gw.kp (gw.src R'.ok.src)
        refine turn_i (n := n) (k := 0) hd R2 (.tup upd_same (nB R'.ok.dom hT) (.cons (.int _) (.cons (rv.grow gw) .nil))) hf hn hr hx fun B2 σ2 H2 ρ2 q2 R3 st => ?_
        exact ⟨B2, ρ2, R3, q2, (st _ _ (gw _ _ ha') nb').1, (st _ _ (gw _ _ ha') nb').2, (rs'.grow gw).move fun a o h nb => st a o h nb⟩
      · obtain ⟨B', ρ', R', hf, _⟩ := hP
        rw [List.drop_of_length_le (by rw [enumD_length, rs.length]; exact Nat.le_refl _)] at hf
        exact hn B' σ' H' ρ' hf R'
    | _ => exact h1.elim
variable {scope : Scope} {own : List (Str × Nat)} {tg elt iter : Expr} {ifs : List Expr} {t : TG} {g : MG} {is : List Nat}
theorem li_enum {elts : List Expr} {kk : Nat} {p cpos tpos : Pos} (P : LcP f X scope own (.Tuple elts kk tpos) ifs elt ct ce t is g mt me) (h0 : ct + ce = 0) (hgl : Gl X "enumerate") (hmg : X.mg "enumerate" = none) (hi : CE f X W ca a ma) (ha : starEach [a] X.env = [(false, eval a X.env)] := by rfl) :
    LcI f X W (.Tuple elts kk tpos) (.Call (.Name "enumerate" p) [a] [] cpos) ct ce t g mt me own ca (mLcE ma g mt me (own.map (·.2))) := ⟨_, pi_enum hgl hmg (pa_cons hi pa_nil ha) ha, fun σ H Q h => by
  obtain ⟨B, n, ρ, Q0, W0, R, hm, hq, hw⟩ := h
  refine rd_i (m := n) R hm (fun d v H1 h1 e1 R1 r1 => ?_) hw
  cases r1 with
  | @lst q ws ds hp nb rs =>
    refine ⟨q, ws, rfl, .inl (.inl hp), fun Dl hD => ?_⟩
    have h1 : mLcL g mt me (wipeD ρ (own.map (·.2))) (enumD 0 ds) [] Q0 := h1
    have R' := R1.wipe (own.map (·.2))
    have nD : q ≠ Dl := ne_of_none hp hD
    have nS : ¬ InS f.g q := fun z => nb (R1.ok.inB z)
    have gw : Gw H1 (L2.upd H1 Dl (.lst [])) := Gw.new hD
    refine lc_it (walk_enum (K := X.K) (a := q) (xs := ws)) (Qd := fun H => Q (.ref Dl) H) (fun i H' => ∃ acc, LcS f B (L2.wipe σ (own.map (·.2))) (wipeD ρ (own.map (·.2))) Dl H1 H' (n + (ct + ce)) acc ∧ mLcL g mt me (wipeD ρ (own.map (·.2))) ((enumD 0 ds).drop i) acc Q0 ∧ H' q = some (.lst ws) ∧ Reps f.g (fun a => B a ∨ a = Dl) H' ws ds)
      ⟨[], by rw [h0]; exact LcS.start R' hD, h1, gw _ _ hp, (rs.avoid hD).grow gw⟩ (fun i H' _ ⟨_, _, _, h4, _⟩ => .inl (.inl h4)) (fun i x H' H2 hlt hP hY => ?_) (fun H' hP => ?_)
    · obtain ⟨acc, S, hf, hp', rs'⟩ := hP
      obtain ⟨T, x1, y1, rfl, hT, rfl, hx1, hy1⟩ := hY
      cases hx1
      have gw2 : Gw H' (L2.upd H' T (.tup [.int (i : Nat), y1])) := Gw.new hT
      have hds : i < ds.length := by rw [← rs.length]; exact hlt
      have ed : ds[i]? = some ds[i] := List.getElem?_eq_getElem hds
      obtain ⟨v2, ev, rv⟩ := rs'.get ed
      rw [show ws[i]? = some y1 from hy1] at ev
      cases ev
      have ee := enumD_get (i := 0) ed
      rw [Nat.zero_add] at ee
      rw [drop_get ee] at hf
      obtain ⟨av, hl, ra⟩ := S.li
      have S2 : LcS f B (L2.wipe σ (own.map (·.2))) (wipeD ρ (own.map (·.2))) Dl H1 (L2.upd H' T (.tup [.int (i : Nat), y1])) (n + (ct + ce)) acc := ⟨S.R.kp gw2.kp (gw2.src S.R.ok.src), S.h0, S.no, ⟨av, gw2 _ _ hl, ra.grow gw2⟩, S.kp.trans gw2.kp, S.fr⟩
      refine lc_turn (k := n) P.hd P.hi S2 (.tup upd_same (nB S.R.ok.dom hT) (.cons (.int _) (.cons (rv.grow gw2) .nil))) hf fun acc' H3 q3 S' st => ⟨acc', by rw [h0]; exact S', q3, st q _ nD nS (gw2 _ _ hp'), ?_⟩
      exact (rs'.grow gw2).move fun a o h nb => ⟨st a o (fun z => nb (.inr z)) (fun z => nb (.inl (R1.ok.inB z))) h, nb⟩
    · obtain ⟨acc, S, hf, _⟩ := hP
      rw [List.drop_of_length_le (by rw [enumD_length, rs.length]; exact Nat.le_refl _)] at hf
      exact lc_end S hf e1 R1.ok (Nat.le_add_right _ _) hq
  | _ => exact h1.elim⟩
end
end Hm
set_option Elab.async false
set_option linter.all false
set_option maxRecDepth 100000
set_option maxHeartbeats 2000000
namespace Hm
open PySem L2 PySem.Spec PyProof.Rows

/-! ### sorted(xs), xs a list of lists of ints -/
def rSortedL (K : PySem.W.Frag) : List V → Hp → VK → Prop := fun vs H Q => ∃ (a : Addr) (L : List (V × List Int)), vs = [.ref a] ∧ SqL K H a (L.map Prod.fst) ∧ (∀ p ∈ L, Dp K H p.1 (.list (p.2.map .int))) ∧
  ∀ p0, H p0 = none → Q (.ref p0) (L2.upd H p0 (.lst ((L.mergeSort fun p q => decide (p.2 ≤ q.2)).map Prod.fst)))
theorem each_rel {L : List (V × List Int)} : ∀ {us : List Value}, Vals (L.map Prod.fst) us → PySem.W.EachIs (fun v p => RelV p.1 v) us L := by
  induction L with
  | nil => intro us r; cases r; exact .nil
  | cons p L ih =>
    intro us r
    cases r with
    | cons r1 r2 => exact .cons r1 (ih r2)
theorem each_read {X : Cx} {pins : List (Addr × Obj)} {σ : L2.St} {H : Hp} {s : Shared} (I : Inv X pins σ H s) {L : List (V × List Int)} : ∀ {us : List Value}, Vals (L.map Prod.fst) us → (∀ p ∈ L, Dp X.K H p.1 (.list (p.2.map .int))) → PySem.W.EachIs (fun v p => ∃ as, Reads s.heap v (.list (p.2.map .int)) as) us L := by
  induction L with
  | nil => intro us r _; cases r; exact .nil
  | cons p L ih =>
    intro us r h
    cases r with
    | cons r1 r2 => exact .cons (Dp.reads I _ _ _ (h p List.mem_cons_self) r1) (ih r2 fun q hq => h q (List.mem_cons_of_mem _ hq))
theorem vals_each : ∀ {us : List Value} {L : List (V × List Int)}, PySem.W.EachIs (fun v p => RelV p.1 v) us L → Vals (L.map Prod.fst) us
  | _, _, .nil => .nil
  | _, _, .cons r t => .cons r (vals_each t)
theorem cr_sortedL {X : Cx} (hu : X.A.units + 64 < cLine) : CallR X (.builtin "sorted") (rSortedL X.K) := by
  intro pins s σ H vs us Q I r h
  obtain ⟨a, L, rfl, hs, hd, q⟩ := h
  obtain ⟨its, rv, hl, hz⟩ := I.list hs
  rw [Vals.ref1 r]
  have hz' : L.length ≤ sizeLine := by rw [List.length_map] at hz; exact hz
  refine PySem.W.sorted_data (vs := its) (bs := L) (enc := fun p => .list (p.2.map .int)) (R := fun v p => RelV p.1 v) hl.isList (each_rel rv) (each_read I rv hd) (PySem.W.AllAlike.of fun b b' => ?_) (PySem.W.Sortable.others fun b => ⟨(fun z => by cases z), (fun xs z => by cases z)⟩) hz' (fun b _ => ?_) fun out ho eo => ?_
  · show PySem.W.alike (.list _) (.list _) = true
    rw [PySem.W.alike]
    exact PySem.W.alike_ints _ _
  · show X.A.units + 2 + (PyData.depthAll (b.2.map .int) + 1) < cLine
    rw [PySem.W.depth_ints]
    omega
  · obtain ⟨ep, he'⟩ := PyProof.Rows.sortedAll_at s.heap its out.toArray
    have ev := vals_each eo
    rw [PySem.W.dataLe_rows (fun p : V × List Int => p.2)] at ev
    have hlen : ((L.mergeSort fun p q => decide (p.2 ≤ q.2)).map Prod.fst).length ≤ sizeLine := by
      rw [List.length_map, List.length_mergeSort]; exact hz'
    exact ⟨.ref _, L2.upd H (s.heap.objs.size + 1) (.lst ((L.mergeSort fun p q => decide (p.2 ≤ q.2)).map Prod.fst)), I.laid (t' := s.toks) (fun _ _ => PyProof.Rows.sortedAll_old) (Nat.le_succ _) ⟨hlen, out, ep, ev, he'⟩, rfl, q _ (I.hok.fresh (Nat.le_succ _))⟩
def rowD (r : List Int) : D := .lst (r.map .int)
def dSortedL : List D → DK → Prop
  | [.lst xs], Q => ∃ rs : List (List Int), xs = rs.map rowD ∧ ∀ rs' : List (List Int), rs'.Perm rs → rs'.Pairwise (· ≤ ·) → Q (.lst (rs'.map rowD))
  | _, _ => False
@[simp] theorem dSortedL_eq {xs : List D} {Q : DK} : dSortedL [.lst xs] Q = (∃ rs : List (List Int), xs = rs.map rowD ∧ ∀ rs' : List (List Int), rs'.Perm rs → rs'.Pairwise (· ≤ ·) → Q (.lst (rs'.map rowD))) := Eq.trans rfl rfl
theorem pys_ints : ∀ ns : List Int, pys (ns.map D.int) = ns.map PyData.int
  | [] => rfl
  | n :: r => by rw [List.map_cons, List.map_cons, pys_cons, py_int, pys_ints r]
theorem pures_ints : ∀ ns : List Int, pures (ns.map D.int) = true
  | [] => rfl
  | n :: r => by rw [List.map_cons, pures_cons, pures_ints r]; rfl
section
variable {K : PySem.W.Frag} {g : Gc} {B : Addr → Prop} {H H' : Hp}
theorem reps_rows : ∀ {vs : List V} {rs : List (List Int)}, Reps g B H vs (rs.map rowD) → (vs.zip rs).map Prod.fst = vs ∧ (vs.zip rs).map Prod.snd = rs ∧ ∀ p ∈ vs.zip rs, Rep g B H p.1 (rowD p.2)
  | _, [], r => by cases r; exact ⟨rfl, rfl, fun p hp => by cases hp⟩
  | _, w :: rs, r => by
    cases r with
    | cons r1 r2 =>
      obtain ⟨h1, h2, h3⟩ := reps_rows r2
      refine ⟨by rw [List.zip_cons_cons, List.map_cons, h1], by rw [List.zip_cons_cons, List.map_cons, h2], fun p hp => ?_⟩
      rw [List.zip_cons_cons] at hp
      rcases List.mem_cons.mp hp with rfl | hp
      · exact r1
      · exact h3 p hp
theorem rows_reps : ∀ {L : List (V × List Int)}, (∀ p ∈ L, Rep g B H p.1 (rowD p.2)) → Reps g B H (L.map Prod.fst) ((L.map Prod.snd).map rowD)
  | [], _ => .nil
  | p :: L, h => .cons (h p List.mem_cons_self) (rows_reps fun q hq => h q (List.mem_cons_of_mem _ hq))
theorem cd_sortedL : CallD K (rSortedL K) dSortedL := fun g B H vs xs Q0 Q hK dom rx h k => by
  subst hK
  unfold dSortedL at h
  split at h
  · obtain ⟨rs, rfl, q⟩ := h
    obtain ⟨a, ys, rfl, h1, _, r⟩ := rx.one_lst
    obtain ⟨z1, z2, z3⟩ := reps_rows r
    refine ⟨a, ys.zip rs, rfl, by rw [z1]; exact .inl (.inl h1), fun p hp => ?_, fun p0 hp0 => ?_⟩
    · have := (z3 p hp).dp (show (rowD p.2).pure = true from pures_ints p.2)
      have e : (rowD p.2).py = .list (p.2.map .int) := by
        show PyData.list (pys (p.2.map D.int)) = _
        rw [pys_ints]
      rw [e] at this
      exact this
    · have pm : ((ys.zip rs).mergeSort fun p q => decide (p.2 ≤ q.2)).Perm (ys.zip rs) := List.mergeSort_perm _ _
      have gw : Gw H (L2.upd H p0 (.lst (((ys.zip rs).mergeSort fun p q => decide (p.2 ≤ q.2)).map Prod.fst))) := Gw.new hp0
      have rr := rows_reps (L := (ys.zip rs).mergeSort fun p q => decide (p.2 ≤ q.2)) fun p hp => z3 p (pm.mem_iff.mp hp)
      refine k _ _ _ (q (((ys.zip rs).mergeSort fun p q => decide (p.2 ≤ q.2)).map Prod.snd) ?_ ?_) gw (.lst upd_same (nB dom hp0) (rr.grow gw))
      · have := pm.map Prod.snd
        rw [z2] at this
        exact this
      · have sp := List.pairwise_mergeSort (le := fun p q : V × List Int => decide (p.2 ≤ q.2)) (fun a b c h1 h2 => by simp at *; exact List.le_trans h1 h2) (fun a b => by simp; exact List.le_total _ _) (ys.zip rs)
        rw [List.pairwise_map]
        exact sp.imp fun h => by simpa using h
  · exact h.elim
end

/-! ### x = f(..): a list that is told apart from all lists of the arguments is new -/
mutual
/-- a list with these items stands within -/
def D.has (es : List D) : D → Prop
  | .lst xs => xs = es ∨ hass es xs
  | .tup xs => hass es xs
  | .dct kvs => hasK es kvs
  | .exc _ fs => hasF es fs
  | .obj _ fs => hasF es fs
  | _ => False
def hass (es : List D) : List D → Prop
  | [] => False
  | x :: r => x.has es ∨ hass es r
def hasK (es : List D) : List (Key × D) → Prop
  | [] => False
  | (_, x) :: r => x.has es ∨ hasK es r
def hasF (es : List D) : List (Str × D) → Prop
  | [] => False
  | (_, x) :: r => x.has es ∨ hasF es r
end
@[simp] theorem has_non {ds : List D} : D.has ds .non = False := Eq.trans rfl rfl
@[simp] theorem has_bl {ds : List D} {b : Bool} : D.has ds (.bl b) = False := Eq.trans rfl rfl
@[simp] theorem has_int {ds : List D} {b : Int} : D.has ds (.int b) = False := Eq.trans rfl rfl
@[simp] theorem has_str {ds : List D} {b : Str} : D.has ds (.str b) = False := Eq.trans rfl rfl
@[simp] theorem has_lst {ds xs : List D} : D.has ds (.lst xs) = (xs = ds ∨ hass ds xs) := Eq.trans rfl rfl
@[simp] theorem has_tup {ds xs : List D} : D.has ds (.tup xs) = hass ds xs := Eq.trans rfl rfl
@[simp] theorem hass_nil {ds : List D} : hass ds [] = False := Eq.trans rfl rfl
@[simp] theorem hass_cons {ds r : List D} {x : D} : hass ds (x :: r) = (x.has ds ∨ hass ds r) := Eq.trans rfl rfl
theorem hass_iff {ds xs : List D} : hass ds xs ↔ ∃ x ∈ xs, x.has ds := by
  induction xs with
  | nil => simp
  | cons x r ih => simp [ih]
section
variable {g : Gc} {B : Addr → Prop} {H H' : Hp} {xs : List D}
def PartB (g : Gc) (B : Addr → Prop) (H : Hp) (xs : List D) (a : Addr) : Prop := B a ∨ ∃ ws, ¬ InS g a ∧ H a = some (.lst ws) ∧ ¬ ∃ es, Reps g B H ws es ∧ hass es xs
theorem PartB.no {a : Addr} {o : HO} (h : H a = some o) (n : ¬ B a) (k : ∀ ws, o ≠ .lst ws) : ¬ PartB g B H xs a := fun z => z.elim n fun ⟨ws, _, h1, _⟩ => by
  rw [h] at h1
  cases h1
  exact k ws rfl
mutual
theorem Rep.part : ∀ {v : V} {d : D}, Rep g B H v d → (∀ es, d.has es → hass es xs) → Rep g (PartB g B H xs) H v d
  | _, _, .non, _ => .non
  | _, _, .bl b, _ => .bl b
  | _, _, .int i, _ => .int i
  | _, _, .str s, _ => .str s
  | _, _, .tup h n r, p => .tup h (PartB.no h n fun ws z => nomatch z) (Reps.part r p)
  | _, _, .wtup h r, p => .wtup h (Reps.part r p)
  | _, _, .lst h n r, p => .lst h (fun z => z.elim n fun ⟨ws, _, h1, h2⟩ => by
      rw [h] at h1
      cases h1
      exact h2 ⟨_, r, p _ (.inl rfl)⟩) (Reps.part r fun es h => p es (.inr h))
  | _, _, .dct h n r, p => .dct h (PartB.no h n fun ws z => nomatch z) (RepsK.part r p)
  | _, _, .exc0 e h n, p => .exc0 e h (PartB.no h n fun ws z => nomatch z)
  | _, _, .exc1 e h n h2 n2 r q, p => .exc1 e h (PartB.no h n fun ws z => nomatch z) h2 (PartB.no h2 n2 fun ws z => nomatch z) (RepsF.part r p) q
  | _, _, .src e, p => .src e
  | _, _, .obj e h n r, p => .obj e h (PartB.no h n fun ws z => nomatch z) (RepsF.part r p)
theorem Reps.part : ∀ {vs : List V} {ds : List D}, Reps g B H vs ds → (∀ es, hass es ds → hass es xs) → Reps g (PartB g B H xs) H vs ds
  | _, _, .nil, _ => .nil
  | _, _, .cons r t, p => .cons (Rep.part r fun es h => p es (.inl h)) (Reps.part t fun es h => p es (.inr h))
theorem RepsK.part : ∀ {vs : List (Key × V)} {ds : List (Key × D)}, RepsK g B H vs ds → (∀ es, hasK es ds → hass es xs) → RepsK g (PartB g B H xs) H vs ds
  | _, _, .nil, _ => .nil
  | _, _, .cons r t, p => .cons (Rep.part r fun es h => p es (.inl h)) (RepsK.part t fun es h => p es (.inr h))
theorem RepsF.part : ∀ {vs : List (Str × V)} {ds : List (Str × D)}, RepsF g B H vs ds → (∀ es, hasF es ds → hass es xs) → RepsF g (PartB g B H xs) H vs ds
  | _, _, .nil, _ => .nil
  | _, _, .cons r t, p => .cons (Rep.part r fun es h => p es (.inl h)) (RepsF.part t fun es h => p es (.inr h))
end
theorem Rep.flat_one {B' : Addr → Prop} {v : V} {d e : D} (r : Rep g B H v d) (h : d.flat = true) (q : Rep g B' H' v e) : e = d := by
  cases r with
  | non => cases q; rfl
  | bl b => cases q; rfl
  | int i => cases q; rfl
  | str s => cases q; rfl
  | _ => cases h
theorem Reps.flat_one {B' : Addr → Prop} : ∀ {vs : List V} {ds es : List D}, Reps g B H vs ds → ds.all D.flat = true → Reps g B' H' vs es → es = ds
  | _, _, _, .nil, _, q => by cases q; rfl
  | _, _, _, .cons r t, h, q => by
    cases q with
    | cons q1 q2 =>
      have h' := Bool.and_eq_true_iff.mp (show (_ && _) = true from h)
      rw [Rep.flat_one r h'.1 q1, Reps.flat_one t h'.2 q2]
theorem Reps.flatAny {B' : Addr → Prop} : ∀ {vs : List V} {ds : List D}, Reps g B H vs ds → ds.all D.flat = true → Reps g B' H' vs ds
  | _, _, .nil, _ => .nil
  | _, _, .cons r t, h => by
    have h' := Bool.and_eq_true_iff.mp (show (_ && _) = true from h)
    exact .cons (r.any h'.1) (Reps.flatAny t h'.2)
end
def slA : D → List D → (Sl → Prop) → Prop
  | .lst ds, xs, k => (ds.all D.flat = true ∧ ¬ hass ds xs) ∧ k (.own ds)
  | d, _, k => k (.dat d)
@[simp] theorem slA_l {ds xs : List D} {k : Sl → Prop} : slA (.lst ds) xs k = ((ds.all D.flat = true ∧ ¬ hass ds xs) ∧ k (.own ds)) := Eq.trans rfl rfl
@[simp] theorem slA_n {xs : List D} {k : Sl → Prop} : slA .non xs k = k (.dat .non) := Eq.trans rfl rfl
def mAsgA (i : Nat) (fn : MF) (mas : MA) : MS := fun ρ E => mas ρ (fun xs => fn xs (fun d => slA d xs fun s => E.nx (ρ.set i s)) (E.ex ρ)) (E.ex ρ)
@[simp] theorem mAsgA_eq (i : Nat) (fn : MF) (mas : MA) (ρ : Rho) (E : DEnds) : mAsgA i fn mas ρ E = mas ρ (fun xs => fn xs (fun d => slA d xs fun s => E.nx (ρ.set i s)) (E.ex ρ)) (E.ex ρ) := Eq.trans rfl rfl
def mAsgT (i j : Nat) (mm : MA) : MS := fun ρ E => thaw? ρ[j]? (fun es => mm (ρ.set j (.dat (.lst es))) (fun ds => noLs ds = true ∧ E.nx (ρ.set i (.dat (.lst ds)))) (fun x => x.fs = [] ∧ E.ex ρ x)) (mAsg i (mFrz mm) ρ E)
@[simp] theorem mAsgT_eq (i j : Nat) (mm : MA) (ρ : Rho) (E : DEnds) : mAsgT i j mm ρ E = thaw? ρ[j]? (fun es => mm (ρ.set j (.dat (.lst es))) (fun ds => noLs ds = true ∧ E.nx (ρ.set i (.dat (.lst ds)))) (fun x => x.fs = [] ∧ E.ex ρ x)) (mAsg i (mFrz mm) ρ E) := Eq.trans rfl rfl
section
variable {f : FrC} {X : Cx} {W : WX} {ca cb cc ct ce : Nat} {a b c : Expr} {es : List Expr} {ma mb mc me : ME} {mt : MT} {mas : MA} {pos : Pos} {ms : MS} {B : Addr → Prop} {σ : L2.St} {H : Hp} {ρ : Rho} {n : Nat}
theorem cs_asgA {i : Nat} {x y : Str} {px p cpos : Pos} {k c : Nat} {fa : Addr} {fd : FuncData} {ps : List Str} {m : MF} {ct : Str → Option Addr} (hN : X.N.Nodup) (F : FnD X.prog X.w X.K X.mg X.base ct k fa fd ps c m) (hct : f.g.ct = ct) (hK : f.g.K = X.K) (tk : Takes X W) (hr : Room k X.A) (hg : Gl X y) (hm : X.mg y = some (.ref fa)) (hk : PySem.W.keepIn X.K (.ref fa) = true) (hb : Binds X.K fd ps [])
    (ha : CA f X W ca (a :: es) mas) (hdb : (y == ("__debug__" : Str)) = false := by decide) (he : starEach (a :: es) X.env = (false, eval a X.env) :: starEach es X.env := by rfl) (hpl : (backTo cpos (starEach es X.env)).any (·.1) = false := by rfl)
    (hi : X.N[i]? = some x := by rfl) (hx : Loc X.env.scope x := by first | exact Or.inl rfl | exact Or.inr rfl) (hf : X.fn x = true ∨ X.env.scope.names.lookup x = some .local := by first | exact .inl rfl | exact .inr rfl | assumption)
    (hs : swapsWithSole [.Name x px] (.Call (.Name y p) (a :: es) [] cpos) pos.line X.env = pure false := by rfl) (hw : swappedStores [.Name x px] (.Call (.Name y p) (a :: es) [] cpos) X.env = pure none := by rfl) :
    CS f X W (ca + c) (.Assign [.Name x px] (.Call (.Name y p) (a :: es) [] cpos) pos) (mAsgA i m mas) :=
  PS.imp (ps_asg (pe_callS F hr hg hm hk hb (fun σ => passAt tk σ) ha hdb he hpl) (pg_name (i := i) hN hi hx hf) hs hw rfl) fun De σ H h => by
    obtain ⟨B, n, ρ, E, R, hm, hn, hr, hb, hc, hx⟩ := h
    refine ra_i (m := n + c) (R.mono (by omega)) hm (fun xs vs H1 h1 e1 R1 r1 => ?_) (fun x cls dd H' q e s er => hx B x cls dd σ H' ρ q (R.kp e (s.mono (by omega))) er)
    obtain ⟨g, B0, H0, N0⟩ := f
    obtain ⟨K, ct, src⟩ := g
    cases hK
    cases hct
    refine ⟨src, PartB ⟨X.K, ct, src⟩ B H1 xs, n, xs, _, _, fun a ha => .inl (R1.ok.inB ha), fun a ha => ?_, R1.ok.src, r1.part (fun es h => h), h1, fun d v H' q e s r => ?_, fun x cls dd H' q e s er => ?_⟩
    · rcases ha with ha | ⟨ws, _, h2, _⟩
      · exact R1.ok.dom a ha
      · rw [h2]; exact fun z => nomatch z
    · have hdat : ∀ d', d = d' → E.nx (ρ.set i (.dat d')) → De.nx (σ.set i (some v)) H' := fun d' hd hq => by
        subst hd
        exact hn B _ H' _ hq ((R.kp (e1.trans e) s).set (r.move fun a o h nb => ⟨h, fun z => nb (.inl z)⟩))
      cases r with
      | @lst p us ds hp nb rs =>
        obtain ⟨⟨fl, ap⟩, q⟩ := q
        have hp1 : H1 p = none := by
          cases z : H1 p with
          | none => rfl
          | some o =>
            exfalso
            by_cases hs : InS ⟨X.K, ct, src⟩ p
            · exact nb (.inl (R1.ok.inB hs))
            · have z2 := e p o hs z
              rw [hp] at z2; cases z2
              refine nb (.inr ⟨us, hs, z, fun ⟨es, r2, h2⟩ => ap ?_⟩)
              rw [← Reps.flat_one rs fl r2]; exact h2
        have hp0 := e1.none R1.ok.dom (fun a h => R1.ok.inB h) hp1
        exact hn _ _ H' _ q (R.setOwn (e1.trans e) s hp0 hp (Reps.flatAny rs fl))
      | non => exact hdat _ rfl q
      | bl b => exact hdat _ rfl q
      | int b => exact hdat _ rfl q
      | str b => exact hdat _ rfl q
      | tup h1 h2 h3 => exact hdat _ rfl q
      | wtup h1 h3 => exact hdat _ rfl q
      | dct h1 h2 h3 => exact hdat _ rfl q
      | exc0 h1 h2 h3 => exact hdat _ rfl q
      | exc1 h1 h2 h3 h4 h5 h6 h7 => exact hdat _ rfl q
      | src h1 => exact hdat _ rfl q
      | obj h1 h2 h3 h4 => exact hdat _ rfl q
    · refine hx B x cls dd σ H' ρ q (R.kp (e1.trans e) s) ?_
      obtain ⟨C, y1, y2, y3⟩ := er
      refine ⟨C, y1, y2, ?_⟩
      rcases y3 with y3 | ⟨d, kvs, z1, z2, z3, z4, z5⟩
      · exact .inl y3
      · exact .inr ⟨d, kvs, z1, z2, fun z => z3 (.inl z), z4.move fun a o h nb => ⟨h, fun z => nb (.inl z)⟩, z5⟩
/-- as Rel.frz, the list told -/
theorem Rel.frzP {i : Nat} {ds : List D} (R : Rel f B σ H ρ n) (e : ρ[i]? = some (.own ds)) : ∃ p vs, H p = some (.lst vs) ∧ f.H0 p = none ∧ Rel f (fun a => B a ∧ a ≠ p) σ H (ρ.set i (.dat (.lst ds))) n := by
  obtain ⟨p, vs, es, hB, h0, hp, r⟩ := R.ownAt e
  have hl : i < ρ.length := (List.getElem?_eq_some_iff.mp e).1
  have mv : ∀ a o, H a = some o → ¬ B a → H a = some o ∧ ¬ (B a ∧ a ≠ p) := fun a o h nb => ⟨h, fun z => nb z.1⟩
  refine ⟨p, vs, hp, h0, ⟨R.ok.s0, R.ok.d0, fun a h => ⟨R.ok.b0 a h, fun z => R.ok.own0 h0 (z ▸ h)⟩, fun a h => R.ok.ow a h.1, fun a h => R.ok.dom a h.1, R.ok.keep, R.ok.src⟩, by rw [List.length_set, R.len], fun j x o h2 h3 => ?_, fun a b q x y ne h2 o2 h3 o3 s2 => ?_⟩
  · rcases set_cases h2 with ⟨e1, e2, _⟩ | ⟨e1, h2⟩
    · subst e1; subst e2
      rw [es] at h3; cases h3
      exact ⟨_, rfl, .lst hp (fun z => z.2 rfl) (r.move mv)⟩
    · have q := R.sl j x o h2 h3
      cases x with
      | un => trivial
      | dat d =>
        obtain ⟨v, e1, r⟩ := q
        exact ⟨v, e1, r.move mv⟩
      | own ds' =>
        obtain ⟨p', vs, e2, b, h0', hp', r⟩ := q
        have ne : p' ≠ p := fun z => R.inj i j p _ _ e1 e rfl h2 rfl es (by rw [h3, e2, z])
        exact ⟨p', vs, e2, ⟨b, ne⟩, h0', hp', r.move mv⟩
      | ownt ds' =>
        obtain ⟨p', vs, e2, b, h0', hp', r⟩ := q
        have ne : p' ≠ p := fun z => R.inj i j p _ _ e1 e rfl h2 rfl es (by rw [h3, e2, z])
        exact ⟨p', vs, e2, ⟨b, ne⟩, h0', hp', r.move mv⟩
      | kt d =>
        obtain ⟨v, e1, r⟩ := q
        exact ⟨v, e1, r.move mv⟩
      | ownd ds' =>
        obtain ⟨p', vs, e2, b, h0', hp', r⟩ := q
        have ne : p' ≠ p := fun z => R.inj i j p _ _ e1 e rfl h2 rfl es (by rw [h3, e2, z])
        exact ⟨p', vs, e2, ⟨b, ne⟩, h0', hp', r.move mv⟩
  · rcases set_cases h2 with ⟨e1, e2, l1⟩ | ⟨e1, h2⟩
    · subst e2; cases o2
    · rcases set_cases h3 with ⟨e3, e4, l3⟩ | ⟨e3, h3⟩
      · subst e4; cases o3
      · exact R.inj a b q x y ne h2 o2 h3 o3 s2
variable {scope : Scope} {own : List (Str × Nat)} {tg elt iter : Expr} {ifs : List Expr} {t : TG} {g : MG} {is : List Nat}
theorem cs_asgLcT {mm : MA} (j : Nat) {i : Nat} {y : Str} {py spos : Pos} (hc : X.calm = true) (hN : X.N.Nodup) (P : LcP f X scope own tg ifs elt ct ce t is g mt me) (I : LcI f X W tg iter ct ce t g mt me own cc mm)
    (hsw : swapsWith (.ListComp elt [⟨tg, iter, ifs, 0⟩] scope pos) (some (.Name y py)) spos.line X.env = pure true) (hy : X.N[i]? = some y := by rfl) (hyl : X.env.scope.names.lookup y = some .local := by rfl) (hs : ∀ x, foldedSetIterable iter X.env x = pure x := by intro _; rfl) :
    CS f X W cc (.Assign [.Name y py] (.ListComp elt [⟨tg, iter, ifs, 0⟩] scope pos) spos) (mAsgT i j mm) := by
  obtain ⟨wi, hi, k⟩ := I.ex
  refine PS.imp (ps_setLc (i := i) hc hN hy hyl hsw hi P.ok P.hg P.ht P.he hs) fun De σ H h => ?_
  obtain ⟨B, n, ρ, E, R, hm, hn, hr, hb, hcc, hx⟩ := h
  rcases thaw?_is hm with ⟨es, e, hm⟩ | hm
  · obtain ⟨p, ws, hp, h0, R'⟩ := R.frzP e
    refine k σ H _ ⟨_, n, _, _, _, R', hm, fun ds q vs H' qq e s hq h1 r => ?_, fun x cls dd H' q e s er => hx B x cls dd σ H' ρ q.2 (R.kp e s) (er.any q.1)⟩
    have hp' : H' p = some (.lst ws) := e p _ (R.ok.nS h0) hp
    refine hn B _ H' _ qq.2 ((R.kp e s).set (.lst h1 (nB R.ok.dom hq) (r.moveT (fun a xs h nb => ⟨h, fun z => nb (.inl ⟨z, fun w => ?_⟩)⟩) qq.1)))
    rw [w, hp'] at h
    cases h
  · refine k σ H _ ⟨B, n, ρ, _, E.ex ρ, R, hm, fun ds p vs H' q e s hp h1 r => ?_, fun x cls dd H' q e s er => hx B x cls dd σ H' ρ q (R.kp e s) er⟩
    exact hn B _ H' _ q ((R.kp e s).set (.lst h1 (nB R.ok.dom hp) r.free))
theorem lcq_mk {vs1 : List Nat} {tg1 iter1 : Expr} {ifs1 : List Expr} {m1 : ME} {mt1 : MT} {t1 : TG} {g1 : MG} {is1 : List Nat} {c1 c2 c3 c4 : Nat}
    (ok : BlkOk X.N X.env.scope scope own) (hv : ∀ i ∈ vs1, i ∈ own.map (·.2))
    (hg : ∀ (s : Shared) (H : Hp) (C : Addr) (cl : List (Str × Addr)) (fp : List Addr), PG (X.blk s H scope (compEnvC scope cl C X.env) fp) tg t) (hG : TgG is g) (hd : TgD f is t g) (hi : ∀ i ∈ is, i ∈ own.map (·.2))
    (ht : ∀ (s : Shared) (H : Hp) (C : Addr) (cl : List (Str × Addr)) (fp : List Addr), PTs (X.blk s H scope (compEnvC scope cl C X.env) fp) ifs (RT f W0F c1 mt))
    (hi1 : ∀ (s : Shared) (H : Hp) (C : Addr) (cl : List (Str × Addr)) (fp : List Addr), PE (X.blk s H scope (compEnvC scope cl C X.env) fp) iter1 (RD f W0F c2 m1))
    (hg1 : ∀ (s : Shared) (H : Hp) (C : Addr) (cl : List (Str × Addr)) (fp : List Addr), PG (X.blk s H scope (compEnvC scope cl C X.env) fp) tg1 t1) (hd1 : TgD f is1 t1 g1) (hj1 : ∀ i ∈ is1, i ∈ vs1)
    (ht1 : ∀ (s : Shared) (H : Hp) (C : Addr) (cl : List (Str × Addr)) (fp : List Addr), PTs (X.blk s H scope (compEnvC scope cl C X.env) fp) ifs1 (RT f W0F c3 mt1))
    (he : ∀ (s : Shared) (H : Hp) (C : Addr) (cl : List (Str × Addr)) (fp : List Addr), PE (X.blk s H scope (compEnvC scope cl C X.env) fp) elt (RD f W0F c4 me))
    (e1 : c1 = 0 := by rfl) (e2 : c2 = 0 := by rfl) (e3 : c3 = 0 := by rfl) (e4 : c4 = 0 := by rfl) : LcQ f X scope own vs1 tg ifs tg1 iter1 ifs1 elt t is g mt m1 t1 is1 g1 mt1 me := by
  subst e1 e2 e3 e4
  exact ⟨ok, hv, hg, hG, hd, hi, ht, hi1, hg1, hd1, hj1, ht1, he⟩
end
end Hm
set_option Elab.async false
set_option linter.all false
set_option maxRecDepth 100000
set_option maxHeartbeats 2000000
namespace Hm
open PySem L2 PySem.Spec PyProof.Rows

/-! ### code that is never reached -/
def mNo : MS := fun _ _ => False
@[simp] theorem mNo_eq (ρ : Rho) (E : DEnds) : mNo ρ E = False := Eq.trans rfl rfl
section
variable {f : FrC} {X : Cx} {W : WX} {ca cb cc : Nat} {a b c : Expr} {es : List Expr} {ma mb mc : ME} {mt : MT} {mas : MA} {pos : Pos} {ms : MS}
theorem cs_no {st : Stmt} : CS f X W 0 st mNo := ⟨fun pins s σ H De I h => by
  obtain ⟨B, n, ρ, E, R, hm, _⟩ := h
  exact hm.elim⟩
/-! ### own.extend(list) -/
def mExt (i : Nat) (e : ME) : MS := fun ρ E => own? ρ[i]? fun ds => e ρ (fun d => asL d fun xs => ds.length + xs.length ≤ sizeLine ∧ E.nx (ρ.set i (.own (ds ++ xs)))) (E.ex ρ)
@[simp] theorem mExt_eq (i : Nat) (e : ME) (ρ : Rho) (E : DEnds) : mExt i e ρ E = (own? ρ[i]? fun ds => e ρ (fun d => asL d fun xs => ds.length + xs.length ≤ sizeLine ∧ E.nx (ρ.set i (.own (ds ++ xs)))) (E.ex ρ)) := Eq.trans rfl rfl
theorem cs_ext {i : Nat} {x : Str} {px apos cpos : Pos} (he : CE f X W ca a ma) (hN : X.N[i]? = some x := by rfl) (hv : Vis X.env.scope x := by first | exact Or.inl rfl | exact Or.inr (Or.inl rfl) | exact Or.inr (Or.inr rfl)) (hd : (x == ("__debug__" : Str)) = false := by decide) (hcd : (x == ("__classdict__" : Str)) = false := by decide)
    (hbase : attributeBase (.Name x px) "extend" X.env (eval (.Name x px) X.env) = eval (.Name x px) X.env := by rfl)
    (hfew : ((backTo cpos (starEach [a] X.env)).all (fun x => !x.1) && (backToKw cpos (keywordEach [] X.env)).all (fun x => x.1.isSome)
      && decide ([a].length + ([] : List Keyword).length + (if ([] : List Keyword).isEmpty then 0 else 1) < 30)) = true := by rfl)
    (hline : (apos.endLine == cpos.line) = true := by rfl) (hst : starEach [a] X.env = (false, eval a X.env) :: starEach [] X.env := by rfl) (hplain : (backTo cpos (starEach [] X.env)).any (·.1) = false := by rfl)
    (hs : swapsWith (.Call (.Attribute (.Name x px) "extend" apos) [a] [] cpos) none pos.line X.env = pure false := by rfl) :
    CS f X W ca (.Expr (.Call (.Attribute (.Name x px) "extend" apos) [a] [] cpos) pos) (mExt i ma) :=
  PS.imp (ps_expr (pe_bm PySem.F.plainAttrs_list PySem.F.slot_list_extend PySem.F.type_list_extend mt_extend (pe_var hN hv hd hcd) (pa_cons he pa_nil hst) hbase hfew hline hst hplain) hs) fun De σ H h => by
    obtain ⟨B, n, ρ, E, R, hm, hn, hr, hb, hc, hx⟩ := h
    obtain ⟨ds, e, hm⟩ := own?_is hm
    obtain ⟨p, vs, es, hB, h0, hp, r⟩ := R.ownAt e
    refine ⟨.ref p, es, .inl ⟨rfl, vs, .inl (.inl hp)⟩, ?_⟩
    refine rd_i (m := n) R hm (fun d v H1 h1 e1 R1 r1 => ?_) fun x cls dd H' q e s er => hx B x cls dd σ H' ρ q (R.kp e s) er
    have hp1 : H1 p = some (.lst vs) := e1 _ _ (R.ok.nS h0) hp
    obtain ⟨xs, rfl, h1⟩ := asL_is h1
    cases r1 with
    | @lst b zs _ hb' nb rz =>
      refine ⟨p, b, vs, zs, rfl, rfl, hp1, hb', by rw [r.length, rz.length]; exact h1.1, ?_⟩
      exact hn B σ _ _ h1.2 (R1.putOwn e es hB h0 ((r.kp R.ok e1).append rz))
/-! ### own dicts: x in d, x not in d -/
def mDIn (neg : Bool) (i : Nat) (k : ME) : ME := fun ρ Q W => ownd? ρ[i]? fun ds => k ρ (fun x => asK x fun q => Q (.bl (neg != (valD ds q).isSome))) W
@[simp] theorem mDIn_eq (neg : Bool) (i : Nat) (k : ME) (ρ : Rho) (Q : DK) (W : XKD) : mDIn neg i k ρ Q W = (ownd? ρ[i]? fun ds => k ρ (fun x => asK x fun q => Q (.bl (neg != (valD ds q).isSome))) W) := Eq.trans rfl rfl
theorem rd_dnot {i : Nat} {σ : L2.St} {H : Hp} {Q : VK} (h : RD f W ca (mDIn true i ma) σ H Q) : tDNotIn (RD f W ca ma) (tVar i) σ H Q := by
  obtain ⟨B, n, ρ, Q0, W0, R, hm, hq, hw⟩ := h
  obtain ⟨ds, eo, hm⟩ := ownd?_is hm
  obtain ⟨p, vs, es, hB, h0, hp, r⟩ := R.ownAtD eo
  refine rd_i (m := n) R hm (fun z w H2 h2 e2 R2 r2 => ?_) hw
  refine ⟨.ref p, es, ?_⟩
  obtain ⟨k, ek, q1⟩ := r2.key h2
  have hp2 : H2 p = some (.dK vs) := e2 _ _ (R.ok.nS h0) hp
  have rr := r.kp R.ok e2
  refine ⟨p, valV vs k, rfl, by rw [ek]; exact DGet.k hp2, ?_⟩
  have e : (valV vs k).isSome = (valD ds k).isSome := by
    rcases rr.val (k := k) with ⟨y, z⟩ | ⟨v, d', z1, z2, z3⟩
    · rw [y, z]; rfl
    · rw [z1, z2]; rfl
  rw [e]
  have q1' : Q0 (.bl (!(valD ds k).isSome)) := by simpa using q1
  exact hq _ _ H2 q1' e2 R2.ok.src (.bl _)
theorem ct_dnot {i : Nat} {x : Str} {px : Pos} (hu : X.A.units + 64 < cLine) (hk : CE f X W ca a ma) (hN : X.N[i]? = some x := by rfl) (hvi : Vis X.env.scope x := by first | exact Or.inl rfl | exact Or.inr (Or.inl rfl) | exact Or.inr (Or.inr rfl)) (hd : (x == ("__debug__" : Str)) = false := by decide) (hcd : (x == ("__classdict__" : Str)) = false := by decide)
    (h1 : behindInMarks .NotIn (.Name x px) = false := by first | exact nomark _ | with_unfolding_all rfl) : CT f X W ca (.Compare a [.NotIn] [.Name x px] pos) (mTest (mDIn true i ma)) :=
  PT.imp (pt_cmp (pc_dnotin (by omega) hk (pe_var hN hvi hd hcd)) h1) fun σ H Q h => rt_test (fun _ q => rd_dnot q) h
/-! ### an own dict becomes a datum -/
def mFzD (i : Nat) (m : MS) : MS := fun ρ E => ownd? ρ[i]? fun ds => m (ρ.set i (.dat (.dct ds))) E
@[simp] theorem mFzD_eq (i : Nat) (m : MS) (ρ : Rho) (E : DEnds) : mFzD i m ρ E = (ownd? ρ[i]? fun ds => m (ρ.set i (.dat (.dct ds))) E) := Eq.trans rfl rfl
theorem Rel.frzD {B : Addr → Prop} {σ : L2.St} {H : Hp} {ρ : Rho} {n i : Nat} {ds : List (Key × D)} (R : Rel f B σ H ρ n) (e : ρ[i]? = some (.ownd ds)) : ∃ B', Rel f B' σ H (ρ.set i (.dat (.dct ds))) n := by
  obtain ⟨p, vs, es, hB, h0, hp, r⟩ := R.ownAtD e
  have hl : i < ρ.length := (List.getElem?_eq_some_iff.mp e).1
  have mv : ∀ a o, H a = some o → ¬ B a → H a = some o ∧ ¬ (B a ∧ a ≠ p) := fun a o h nb => ⟨h, fun z => nb z.1⟩
  refine ⟨fun a => B a ∧ a ≠ p, ⟨R.ok.s0, R.ok.d0, fun a h => ⟨R.ok.b0 a h, fun z => R.ok.own0 h0 (z ▸ h)⟩, fun a h => R.ok.ow a h.1, fun a h => R.ok.dom a h.1, R.ok.keep, R.ok.src⟩, by rw [List.length_set, R.len], fun j x o h2 h3 => ?_, fun a b q x y ne h2 o2 h3 o3 s2 => ?_⟩
  · rcases set_cases h2 with ⟨e1, e2, _⟩ | ⟨e1, h2⟩
    · subst e1; subst e2
      rw [es] at h3; cases h3
      exact ⟨_, rfl, .dct hp (fun z => z.2 rfl) (r.move mv)⟩
    · have q := R.sl j x o h2 h3
      cases x with
      | un => trivial
      | dat d =>
        obtain ⟨v, e1, r⟩ := q
        exact ⟨v, e1, r.move mv⟩
      | own ds' =>
        obtain ⟨p', vs, e2, b, h0', hp', r⟩ := q
        have ne : p' ≠ p := fun z => R.inj i j p _ _ e1 e rfl h2 rfl es (by rw [h3, e2, z])
        exact ⟨p', vs, e2, ⟨b, ne⟩, h0', hp', r.move mv⟩
      | ownt ds' =>
        obtain ⟨p', vs, e2, b, h0', hp', r⟩ := q
        have ne : p' ≠ p := fun z => R.inj i j p _ _ e1 e rfl h2 rfl es (by rw [h3, e2, z])
        exact ⟨p', vs, e2, ⟨b, ne⟩, h0', hp', r.move mv⟩
      | kt d =>
        obtain ⟨v, e1, r⟩ := q
        exact ⟨v, e1, r.move mv⟩
      | ownd ds' =>
        obtain ⟨p', vs, e2, b, h0', hp', r⟩ := q
        have ne : p' ≠ p := fun z => R.inj i j p _ _ e1 e rfl h2 rfl es (by rw [h3, e2, z])
        exact ⟨p', vs, e2, ⟨b, ne⟩, h0', hp', r.move mv⟩
  · rcases set_cases h2 with ⟨e1, e2, l1⟩ | ⟨e1, h2⟩
    · subst e2; cases o2
    · rcases set_cases h3 with ⟨e3, e4, l3⟩ | ⟨e3, h3⟩
      · subst e4; cases o3
      · exact R.inj a b q x y ne h2 o2 h3 o3 s2
theorem cs_fzD (i : Nat) {st : Stmt} {ms : MS} (h : CS f X W ca st ms) : CS f X W ca st (mFzD i ms) := PS.imp h fun De σ H h => by
  obtain ⟨B, n, ρ, E, R, hm, k⟩ := h
  obtain ⟨ds, e, hm⟩ := ownd?_is hm
  obtain ⟨B', R'⟩ := R.frzD e
  exact ⟨B', n, _, E, R', hm, k⟩
/-! ### a dict as a datum: d[k], list(d), len(d) -/
def asD : D → (List (Key × D) → Prop) → Prop
  | .dct ds, Q => Q ds
  | _, _ => False
@[simp] theorem asD_eq (ds : List (Key × D)) (Q : List (Key × D) → Prop) : asD (.dct ds) Q = Q ds := Eq.trans rfl rfl
theorem asD_is {d : D} {Q : List (Key × D) → Prop} (h : asD d Q) : ∃ ds, d = .dct ds ∧ Q ds := by
  unfold asD at h
  split at h
  · exact ⟨_, rfl, h⟩
  · exact h.elim
def mDix (o k : ME) : ME := fun ρ Q W => o ρ (fun x => k ρ (fun y => asD x fun ds => asK y fun q => ∃ d, valD ds q = some d ∧ Q d) W) W
@[simp] theorem mDix_eq (o k : ME) (ρ : Rho) (Q : DK) (W : XKD) : mDix o k ρ Q W = o ρ (fun x => k ρ (fun y => asD x fun ds => asK y fun q => ∃ d, valD ds q = some d ∧ Q d) W) W := Eq.trans rfl rfl
theorem ce_dix (hu : X.A.units + 64 < cLine) (ho : CE f X W ca a ma) (hk : CE f X W cb b mb) (hs : NoSl b := by intro _ _; rfl) : CE f X W (ca + cb) (.Subscript a b pos) (mDix ma mb) :=
  PE.imp (pe_dget (by omega) ho hk hs) fun σ H Q h => by
    obtain ⟨B, n, ρ, Q0, W0, R, hm, hq, hw⟩ := h
    refine rd_i (m := n + cb) (R.mono (by omega)) hm (fun x vx H1 h1 e1 R1 r1 => ?_) fun x cls dd H' q e s er => hw x cls dd H' q e (s.mono (by omega)) er
    refine rd_i (m := n) R1 h1 (fun y vy H2 h2 e2 R2 r2 => ?_) fun x cls dd H' q e s er => hw x cls dd H' q (e1.trans e) s er
    obtain ⟨ds, rfl, h2⟩ := asD_is h2
    obtain ⟨k, ek, d, q1, q2⟩ := r2.key h2
    cases r1.kp R1.ok e2 with
    | @dct p vs _ hp nb rr =>
      rcases rr.val (k := k) with ⟨_, z⟩ | ⟨v, d', z1, z2, z3⟩
      · rw [z] at q1; cases q1
      · rw [z2] at q1; cases q1
        exact ⟨p, v, rfl, by rw [ek, ← z1]; exact DGet.k hp, hq _ _ H2 q2 (e1.trans e2) R2.ok.src z3⟩
def kD : Key → D
  | .inl i => .int i
  | .inr s => .str s
@[simp] theorem kD_int (i : Int) : kD (.inl i) = .int i := Eq.trans rfl rfl
@[simp] theorem kD_str (i : Str) : kD (.inr i) = .str i := Eq.trans rfl rfl
theorem RepsK.keys {g : Gc} {B B' : Addr → Prop} {H H' : Hp} : ∀ {vs : List (Key × V)} {ds : List (Key × D)}, RepsK g B H vs ds → Reps g B' H' (vs.map fun kv => kV kv.1) (ds.map fun kv => kD kv.1)
  | _, _, .nil => .nil
  | _, _, .cons (k := k) r t => .cons (match k with
    | .inl i => .int i
    | .inr s => .str s) (RepsK.keys t)
def dListD : List D → DK → Prop
  | [.dct ds], Q => Q (.lst (ds.map fun kv => kD kv.1))
  | _, _ => False
@[simp] theorem dListD_eq (ds : List (Key × D)) (Q : DK) : dListD [.dct ds] Q = Q (.lst (ds.map fun kv => kD kv.1)) := Eq.trans rfl rfl
theorem cd_listD {K : PySem.W.Frag} : CallD K rListD dListD := fun g B H vs xs Q0 Q hK dom rx h k => by
  subst hK
  unfold dListD at h
  split at h
  · cases rx with
    | cons r t =>
      cases t with
      | nil =>
        cases r with
        | @dct p us _ hp nb rr =>
          exact ⟨p, us, rfl, hp, fun q hq => k _ _ _ h (Gw.new hq) (.lst upd_same (nB dom hq) rr.keys)⟩
  · exact h.elim
/-! ### list(range(n)) -/
def mLRg (e : ME) : ME := fun ρ Q W => e ρ (fun d => asI d fun n => RgOk 0 n ∧ Q (.lst (rngD 0 n.toNat))) W
@[simp] theorem mLRg_eq (e : ME) (ρ : Rho) (Q : DK) (W : XKD) : mLRg e ρ Q W = e ρ (fun d => asI d fun n => RgOk 0 n ∧ Q (.lst (rngD 0 n.toNat))) W := Eq.trans rfl rfl
theorem Reps.rng {g : Gc} {B : Addr → Prop} {H : Hp} (n : Int) : Reps g B H (rgV 0 n) (rngD 0 n.toNat) := by
  have e1 : rgV 0 n = ((List.range n.toNat).map fun i => (0 + (i : Nat) : Int)).map V.int := by unfold rgV; rw [List.map_map, Int.sub_zero]; rfl
  have e2 : rngD 0 n.toNat = ((List.range n.toNat).map fun i => (0 + (i : Nat) : Int)).map D.int := by unfold rngD; rw [List.map_map]; rfl
  rw [e1, e2]
  exact Reps.ints _
theorem ce_listRg {p pos p' pos' : Pos} (hc : X.calm = true) (hg : Gl X "list") (hm : X.mg "list" = none) (hg' : Gl X "range") (hm' : X.mg "range" = none) (he : CE f X W ca a ma)
    (na : starEach [.Call (.Name "range" p') [a] [] pos'] X.env = (false, eval (.Call (.Name "range" p') [a] [] pos') X.env) :: starEach [] X.env := by rfl) (na' : starEach [a] X.env = (false, eval a X.env) :: starEach [] X.env := by rfl) :
    CE f X W ca (.Call (.Name "list" p) [.Call (.Name "range" p') [a] [] pos'] [] pos) (mLRg ma) :=
  PE.imp (pe_listRg hc hg hm (prg_1 hg' hm' he na') na) fun σ H Q h => by
    obtain ⟨B, n, ρ, Q0, W0, R, hm, hq, hw⟩ := h
    refine rd_i (m := n) R hm (fun x vx H1 h1 e1 R1 r1 => ?_) hw
    cases r1 with
    | int i =>
      refine ⟨i, rfl, h1.1, fun q hq' => ?_⟩
      have gw : Gw H1 (upd H1 q (.lst (rgV 0 i))) := Gw.new hq'
      exact hq _ _ _ h1.2 (e1.trans gw.kp) (gw.src R1.ok.src) (.lst upd_same (nB R1.ok.dom hq') (Reps.rng i))
    | _ => exact h1.elim
end
end Hm
set_option Elab.async false
set_option linter.all false
set_option maxRecDepth 100000
set_option maxHeartbeats 2000000
namespace Hm
open PySem L2 PySem.Spec PyProof.Rows
/-! ### dicts of one's own whose keys are tuples of ints and texts -/
def valT (kvs : List (List Key × D)) (k : List Key) : Option D := (kvs.find? fun kv => decide (kv.1 = k)).map (·.2)
def putT (kvs : List (List Key × D)) (k : List Key) (v : D) : List (List Key × D) :=
  if (kvs.any fun kv => decide (kv.1 = k)) = true then kvs.map (fun kv => if kv.1 = k then (kv.1, v) else kv) else kvs ++ [(k, v)]
def asKs : List D → (List Key → Prop) → Prop
  | [], Q => Q []
  | d :: r, Q => asK d fun k => asKs r fun ks => Q (k :: ks)
@[simp] theorem asKs_nil {Q : List Key → Prop} : asKs [] Q = Q [] := Eq.trans rfl rfl
@[simp] theorem asKs_cons {d : D} {r : List D} {Q : List Key → Prop} : asKs (d :: r) Q = asK d fun k => asKs r fun ks => Q (k :: ks) := Eq.trans rfl rfl
section
variable {g : Gc} {B : Addr → Prop} {H : Hp}
theorem RepsT.length : ∀ {vs : List (List Key × V)} {ds : List (List Key × D)}, RepsT g B H vs ds → vs.length = ds.length
  | _, _, .nil => rfl
  | _, _, .cons _ t => congrArg (· + 1) (RepsT.length t)
theorem RepsT.val {k : List Key} : ∀ {vs : List (List Key × V)} {ds : List (List Key × D)}, RepsT g B H vs ds → (valV vs k = none ∧ valT ds k = none) ∨ ∃ v d, valV vs k = some v ∧ valT ds k = some d ∧ Rep g B H v d
  | _, _, .nil => .inl ⟨rfl, rfl⟩
  | _, _, .cons (k := k') (v := v) (d := d) r t => by
    by_cases e : k' = k
    · exact .inr ⟨v, d, valV_pos e, by simp [valT, List.find?_cons, e], r⟩
    · rw [valV_neg (show ¬ (k', v).1 = k from e)]
      have e2 : ∀ r : List (List Key × D), valT ((k', d) :: r) k = valT r k := fun r => by simp [valT, List.find?_cons, e]
      rw [e2]
      exact RepsT.val t
theorem RepsT.any {k : List Key} : ∀ {vs : List (List Key × V)} {ds : List (List Key × D)}, RepsT g B H vs ds → (vs.any fun kv => decide (kv.1 = k)) = (ds.any fun kv => decide (kv.1 = k))
  | _, _, .nil => rfl
  | _, _, .cons r t => by rw [List.any_cons, List.any_cons, RepsT.any t]
theorem RepsT.app : ∀ {vs us : List (List Key × V)} {ds es : List (List Key × D)}, RepsT g B H vs ds → RepsT g B H us es → RepsT g B H (vs ++ us) (ds ++ es)
  | _, _, _, _, .nil, s => s
  | _, _, _, _, .cons r t, s => .cons r (RepsT.app t s)
theorem RepsT.repl {k : List Key} {v : V} {d : D} (q : Rep g B H v d) : ∀ {vs : List (List Key × V)} {ds : List (List Key × D)}, RepsT g B H vs ds → RepsT g B H (vs.map fun kv => if kv.1 = k then (kv.1, v) else kv) (ds.map fun kv => if kv.1 = k then (kv.1, d) else kv)
  | _, _, .nil => .nil
  | _, _, .cons (k := k') r t => by
    rw [List.map_cons, List.map_cons]
    by_cases e : k' = k
    · rw [if_pos e, if_pos e]; exact .cons q (RepsT.repl q t)
    · rw [if_neg e, if_neg e]; exact .cons r (RepsT.repl q t)
theorem RepsT.put {k : List Key} {v : V} {d : D} {vs : List (List Key × V)} {ds : List (List Key × D)} (r : RepsT g B H vs ds) (q : Rep g B H v d) : RepsT g B H (putK vs k v) (putT ds k d) := by
  unfold putK putT
  rw [r.any]
  split
  · exact r.repl q
  · exact r.app (.cons q .nil)
theorem Reps.asKs : ∀ {vs : List V} {ds : List D} {Q : List Key → Prop}, Reps g B H vs ds → asKs ds Q → ∃ ks, vs = ks.map kV ∧ Q ks
  | _, _, _, .nil, h => ⟨[], rfl, h⟩
  | _, _, _, .cons r t, h => by
    obtain ⟨k, e, h⟩ := r.key h
    obtain ⟨ks, e2, h⟩ := Reps.asKs t h
    exact ⟨k :: ks, by rw [e, e2]; rfl, h⟩
end
section
variable {f : FrC} {B : Addr → Prop} {σ : L2.St} {H : Hp} {ρ : Rho} {n i : Nat} {p : Addr}
/-- a slot gets an own dict that stands already -/
theorem Rel.setOwnT {vs : List (List Key × V)} {ds : List (List Key × D)} (R : Rel f B σ H ρ n) (hB : B p) (h0 : f.H0 p = none) (old : ∀ (j : Nat) x, ρ[j]? = some x → x.isOwn = true → σ[j]? ≠ some (some (.ref p))) (hp : H p = some (.dT vs)) (r : RepsT f.g B H vs ds) :
    Rel f B (σ.set i (some (.ref p))) H (ρ.set i (.ownt ds)) n := by
  refine ⟨R.ok, by rw [List.length_set, List.length_set, R.len], fun j x o h2 h3 => ?_, fun a b q x y ne h2 o2 h3 o3 s2 => ?_⟩
  · rcases set_cases h2 with ⟨e1, e2, _⟩ | ⟨e1, h2⟩
    · rcases set_cases h3 with ⟨_, e4, _⟩ | ⟨e3, _⟩
      · subst e2; subst e4
        exact ⟨p, vs, rfl, hB, h0, hp, r⟩
      · exact absurd e1 e3
    · rcases set_cases h3 with ⟨e3, _⟩ | ⟨_, h3⟩
      · exact absurd e3 e1
      · exact R.sl j x o h2 h3
  · rcases set_cases h2 with ⟨e1, e2, l1⟩ | ⟨e1, h2⟩
    · subst e1
      rw [List.getElem?_set_self (by rw [R.len]; exact l1)] at s2
      cases s2
      rcases set_cases h3 with ⟨e3, _⟩ | ⟨e3, h3⟩
      · exact absurd e3 ne
      · rw [List.getElem?_set_ne e3]
        exact old b y h3 o3
    · rw [List.getElem?_set_ne e1] at s2
      rcases set_cases h3 with ⟨e3, e4, l3⟩ | ⟨e3, h3⟩
      · subst e3
        rw [List.getElem?_set_self (by rw [R.len]; exact l3)]
        intro z
        cases z
        exact old a x h2 o2 s2
      · rw [List.getElem?_set_ne e3]
        exact R.inj a b q x y ne h2 o2 h3 o3 s2
theorem Rel.ownAtT {ds : List (List Key × D)} (R : Rel f B σ H ρ n) (e : ρ[i]? = some (.ownt ds)) : ∃ p vs, σ[i]? = some (some (.ref p)) ∧ B p ∧ f.H0 p = none ∧ H p = some (.dT vs) ∧ RepsT f.g B H vs ds := by
  have hl : i < σ.length := by rw [R.len]; exact (List.getElem?_eq_some_iff.mp e).1
  obtain ⟨p, vs, e1, r⟩ := R.sl i _ _ e (List.getElem?_eq_getElem hl)
  exact ⟨p, vs, by rw [List.getElem?_eq_getElem hl, e1], r⟩
/-- an own dict is written anew -/
theorem Rel.putOwnT {ds es : List (List Key × D)} {us : List (List Key × V)} (R : Rel f B σ H ρ n) (hi : ρ[i]? = some (.ownt ds)) (hs : σ[i]? = some (some (.ref p))) (hB : B p) (h0 : f.H0 p = none) (r : RepsT f.g B H us es) :
    Rel f B σ (L2.upd H p (.dT us)) (ρ.set i (.ownt es)) n := by
  refine ⟨R.ok.upd hB h0, by rw [List.length_set, R.len], fun j x o h2 h3 => ?_, fun a b q x y ne h2 o2 h3 o3 s2 => ?_⟩
  · rcases set_cases h2 with ⟨e1, e2, _⟩ | ⟨e1, h2⟩
    · subst e1; subst e2
      rw [hs] at h3; cases h3
      exact ⟨p, us, rfl, hB, h0, upd_same, r.upd hB⟩
    · have q := R.sl j x o h2 h3
      cases x with
      | un => trivial
      | dat d =>
        obtain ⟨v, e1, r⟩ := q
        exact ⟨v, e1, r.upd hB⟩
      | own ds' =>
        obtain ⟨p', vs, e2, b, h0', hp', r⟩ := q
        have ne : p' ≠ p := fun z => R.inj i j p _ _ e1 hi rfl h2 rfl hs (by rw [h3, e2, z])
        exact ⟨p', vs, e2, b, h0', by rw [upd_ne ne]; exact hp', r.upd hB⟩
      | ownt ds' =>
        obtain ⟨p', vs, e2, b, h0', hp', r⟩ := q
        have ne : p' ≠ p := fun z => R.inj i j p _ _ e1 hi rfl h2 rfl hs (by rw [h3, e2, z])
        exact ⟨p', vs, e2, b, h0', by rw [upd_ne ne]; exact hp', r.upd hB⟩
      | kt d =>
        obtain ⟨v, e1, r⟩ := q
        exact ⟨v, e1, r.upd hB⟩
      | ownd ds' =>
        obtain ⟨p', vs, e2, b, h0', hp', r⟩ := q
        have ne : p' ≠ p := fun z => R.inj i j p _ _ e1 hi rfl h2 rfl hs (by rw [h3, e2, z])
        exact ⟨p', vs, e2, b, h0', by rw [upd_ne ne]; exact hp', r.upd hB⟩
  · rcases set_cases h2 with ⟨e1, e2, l1⟩ | ⟨e1, h2⟩
    · rcases set_cases h3 with ⟨e3, _⟩ | ⟨e3, h3⟩
      · exact absurd (e1.symm.trans e3) ne
      · subst e1
        exact R.inj i b q _ y ne hi rfl h3 o3 s2
    · rcases set_cases h3 with ⟨e3, e4, l3⟩ | ⟨e3, h3⟩
      · subst e3
        exact R.inj a i q x _ ne h2 o2 hi rfl s2
      · exact R.inj a b q x y ne h2 o2 h3 o3 s2
theorem Rel.setK {i : Nat} {v : V} {d : List Key} (R : Rel f B σ H ρ n) (r : RKt f.g B H v d) : Rel f B (σ.set i (some v)) H (ρ.set i (.kt d)) n :=
  ⟨R.ok, by rw [List.length_set, List.length_set, R.len], fun j x o h1 h2 => by
    rcases set_cases h1 with ⟨e1, e2, _⟩ | ⟨e1, h1⟩
    · rcases set_cases h2 with ⟨_, e4, _⟩ | ⟨e3, _⟩
      · subst e2; subst e4
        exact ⟨v, rfl, r⟩
      · exact absurd e1 e3
    · rcases set_cases h2 with ⟨e3, _⟩ | ⟨_, h2⟩
      · exact absurd e3 e1
      · exact R.sl j x o h1 h2, fun a b p x y ne h1 o1 h2 o2 s1 => by
    rcases set_cases h1 with ⟨e1, e2, _⟩ | ⟨e1, h1⟩
    · subst e2; cases o1
    · rcases set_cases h2 with ⟨e3, e4, _⟩ | ⟨e3, h2⟩
      · subst e4; cases o2
      · rw [List.getElem?_set_ne e1] at s1
        rw [List.getElem?_set_ne e3]
        exact R.inj a b p x y ne h1 o1 h2 o2 s1⟩
end
/-! keys -/
abbrev MK := Rho → (List Key → Prop) → XKD → Prop
def RK (f : FrC) (W : WX) (c : Nat) (m : MK) : TE := fun σ H Q => ∃ (B : Addr → Prop) (n : Nat) (ρ : Rho) (Q0 : List Key → Prop) (W0 : XKD), Rel f B σ H ρ (n + c) ∧ m ρ Q0 W0 ∧
  (∀ ks v H', Q0 ks → Kp f.g H H' → SrcOk f.g H' n → RKt f.g B H' v ks → Q v H') ∧ (∀ x cls dd H', W0 x → Kp f.g H H' → SrcOk f.g H' n → ErrAt f.g B H' cls dd x → W cls dd σ H')
abbrev CK (f : FrC) (X : Cx) (W : WX) (c : Nat) (e : Expr) (m : MK) : Prop := PE X e (RK f W c m)
section
variable {f : FrC} {B : Addr → Prop} {σ : L2.St} {H : Hp} {ρ : Rho} {n m i ca cb : Nat} {p : Addr} {X : Cx} {W : WX} {a b : Expr} {es : List Expr} {ma mb : ME} {mas : MA} {mk : MK} {pos : Pos}
theorem rk_i {Q0 : List Key → Prop} {W0 : XKD} {Q : VK} (R : Rel f B σ H ρ (m + ca)) (h : mk ρ Q0 W0) (hq : ∀ x v H1, Q0 x → Kp f.g H H1 → Rel f B σ H1 ρ m → RKt f.g B H1 v x → Q v H1)
    (hw : ∀ x cls dd H', W0 x → Kp f.g H H' → SrcOk f.g H' m → ErrAt f.g B H' cls dd x → W cls dd σ H') : RK f W ca mk σ H Q := ⟨B, m, ρ, Q0, W0, R, h, fun d v H' q e s r => hq d v H' q e (R.kp e s) r, hw⟩
/-- a tuple made here -/
def mKt (mas : MA) : MK := fun ρ Q W => mas ρ (fun ds => ds.length ≤ sizeLine ∧ asKs ds Q) W
@[simp] theorem mKt_eq (mas : MA) (ρ : Rho) (Q : List Key → Prop) (W : XKD) : mKt mas ρ Q W = mas ρ (fun ds => ds.length ≤ sizeLine ∧ asKs ds Q) W := Eq.trans rfl rfl
theorem ck_tup {x1} (h : CA f X W ca es mas) : CK f X W ca (.Tuple es x1 pos) (mKt mas) := PE.imp (pe_tup h) fun σ H Q h => by
  obtain ⟨B, n, ρ, Q0, W0, R, hm, hq, hw⟩ := h
  refine ra_i (m := n) R hm (fun ds vs H1 h1 e1 R1 r1 => ⟨by rw [r1.length]; exact h1.1, fun p hp => ?_⟩) hw
  have gw : Gw H1 (upd H1 p (.tup vs)) := Gw.new hp
  obtain ⟨ks, ek, q⟩ := r1.asKs h1.2
  exact hq ks _ _ q (e1.trans gw.kp) (gw.src R1.ok.src) ⟨p, rfl, by rw [upd_same, ek], nB R1.ok.dom hp⟩
def kt? : Option Sl → (List Key → Prop) → Prop
  | some (.kt ks), Q => Q ks
  | _, _ => False
@[simp] theorem kt?_eq (ks : List Key) (Q : List Key → Prop) : kt? (some (.kt ks)) Q = Q ks := Eq.trans rfl rfl
theorem kt?_is {o : Option Sl} {Q : List Key → Prop} (h : kt? o Q) : ∃ ks, o = some (.kt ks) ∧ Q ks := by
  unfold kt? at h
  split at h
  · exact ⟨_, rfl, h⟩
  · exact h.elim
/-- a key that a name holds -/
def mKv (i : Nat) : MK := fun ρ Q _ => kt? ρ[i]? Q
@[simp] theorem mKv_eq (i : Nat) (ρ : Rho) (Q : List Key → Prop) (W : XKD) : mKv i ρ Q W = kt? ρ[i]? Q := Eq.trans rfl rfl
theorem ck_var (i : Nat) {x : Str} {px : Pos} (hN : X.N[i]? = some x := by rfl) (hvi : Vis X.env.scope x := by first | exact Or.inl rfl | exact Or.inr (Or.inl rfl) | exact Or.inr (Or.inr rfl)) (hd : (x == ("__debug__" : Str)) = false := by decide) (hcd : (x == ("__classdict__" : Str)) = false := by decide) :
    CK f X W 0 (.Name x px) (mKv i) := PE.imp (pe_var hN hvi hd hcd) fun σ H Q h => by
  obtain ⟨B, n, ρ, Q0, W0, R, hm, hq, hw⟩ := h
  obtain ⟨ks, e, q⟩ := kt?_is hm
  have hl : i < σ.length := by rw [R.len]; exact (List.getElem?_eq_some_iff.mp e).1
  obtain ⟨v, e1, r⟩ := R.sl i _ _ e (List.getElem?_eq_getElem hl)
  exact ⟨v, by rw [List.getElem?_eq_getElem hl, e1], hq ks v H q (Kp.refl H) R.ok.src r⟩
/-- k = (.., ..) -/
def mAsgK (i : Nat) (mk : MK) : MS := fun ρ E => mk ρ (fun ks => E.nx (ρ.set i (.kt ks))) (E.ex ρ)
@[simp] theorem mAsgK_eq (i : Nat) (mk : MK) (ρ : Rho) (E : DEnds) : mAsgK i mk ρ E = mk ρ (fun ks => E.nx (ρ.set i (.kt ks))) (E.ex ρ) := Eq.trans rfl rfl
theorem cs_asgK {i : Nat} {x : Str} {p : Pos} (hN : X.N.Nodup) (he : CK f X W ca a mk) (hi : X.N[i]? = some x := by rfl) (hx : Loc X.env.scope x := by first | exact Or.inl rfl | exact Or.inr rfl) (hf : X.fn x = true ∨ X.env.scope.names.lookup x = some .local := by first | exact .inl rfl | exact .inr rfl | assumption)
    (hs : swapsWithSole [.Name x p] a pos.line X.env = pure false := by rfl) (hw : swappedStores [.Name x p] a X.env = pure none := by rfl) : CS f X W ca (.Assign [.Name x p] a pos) (mAsgK i mk) :=
  PS.imp (ps_asg he (pg_name (i := i) hN hi hx hf) hs hw rfl) fun D σ H h => by
    obtain ⟨B, n, ρ, E, R, hm, hn, hr, hb, hc, hx⟩ := h
    exact rk_i (m := n) R hm (fun d v H1 h1 e1 R1 r1 => hn B _ H1 _ h1 (R1.setK r1)) fun x cls dd H' q e s er => hx B x cls dd σ H' ρ q (R.kp e s) er
def ownt? : Option Sl → (List (List Key × D) → Prop) → Prop
  | some (.ownt ds), Q => Q ds
  | _, _ => False
@[simp] theorem ownt?_eq (ds : List (List Key × D)) (Q : List (List Key × D) → Prop) : ownt? (some (.ownt ds)) Q = Q ds := Eq.trans rfl rfl
theorem ownt?_is {o : Option Sl} {Q : List (List Key × D) → Prop} (h : ownt? o Q) : ∃ ds, o = some (.ownt ds) ∧ Q ds := by
  unfold ownt? at h
  split at h
  · exact ⟨_, rfl, h⟩
  · exact h.elim
/-- x[k] = v -/
def mTput (i : Nat) (k : MK) (v : ME) : MS := fun ρ E => ownt? ρ[i]? fun ds => v ρ (fun y => k ρ (fun q => ds.length < sizeLine ∧ E.nx (ρ.set i (.ownt (putT ds q y)))) (E.ex ρ)) (E.ex ρ)
@[simp] theorem mTput_eq (i : Nat) (k : MK) (v : ME) (ρ : Rho) (E : DEnds) : mTput i k v ρ E = (ownt? ρ[i]? fun ds => v ρ (fun y => k ρ (fun q => ds.length < sizeLine ∧ E.nx (ρ.set i (.ownt (putT ds q y)))) (E.ex ρ)) (E.ex ρ)) := Eq.trans rfl rfl
theorem cs_tput {i : Nat} {x : Str} {px pos' : Pos} (hu : X.A.units + 64 < cLine) (hk : CK f X W ca a mk) (hv : CE f X W cb b mb) (hN : X.N[i]? = some x := by rfl) (hvi : Vis X.env.scope x := by first | exact Or.inl rfl | exact Or.inr (Or.inl rfl) | exact Or.inr (Or.inr rfl)) (hd : (x == ("__debug__" : Str)) = false := by decide) (hcd : (x == ("__classdict__" : Str)) = false := by decide)
    (hs : swapsWith b (some (.Subscript (.Name x px) a pos')) pos.line X.env = pure false := by rfl) : CS f X W (cb + ca) (.Assign [.Subscript (.Name x px) a pos'] b pos) (mTput i mk mb) :=
  PS.imp (ps_dput (by omega) (pe_var hN hvi hd hcd) hk hv hs) fun De σ H h => by
    obtain ⟨B, n, ρ, E, R, hm, hn, hr, hb, hc, hx⟩ := h
    obtain ⟨ds, eo, hm⟩ := ownt?_is hm
    obtain ⟨p, vs, es, hB, h0, hp, r⟩ := R.ownAtT eo
    refine rd_i (m := n + ca) (R.mono (by omega)) hm (fun y u H1 h1 e1 R1 r1 => ?_) fun x cls dd H' q e s er => hx B x cls dd σ H' ρ q (R.kp e (s.mono (by omega))) er
    refine ⟨.ref p, es, ?_⟩
    refine rk_i (m := n) R1 h1 (fun k w H2 h2 e2 R2 r2 => ?_) fun x cls dd H' q e s er => hx B x cls dd σ H' ρ q (R1.kp e s) er
    obtain ⟨bb, ek, hbb, nb⟩ := r2.is
    have hp2 : H2 p = some (.dT vs) := e2 _ _ (R.ok.nS h0) (e1 _ _ (R.ok.nS h0) hp)
    have rr := (r.kp R.ok e1).kp R1.ok e2
    exact ⟨p, _, rfl, by rw [ek]; exact DPut.t hp2 hbb (by rw [rr.length]; exact h2.1), hn B σ _ _ h2.2 (R2.putOwnT eo es hB h0 (rr.put (r1.kp R1.ok e2)))⟩
/-- k not in x -/
def mTNo (i : Nat) (k : MK) : ME := fun ρ Q W => ownt? ρ[i]? fun ds => k ρ (fun q => Q (.bl (!(valT ds q).isSome))) W
@[simp] theorem mTNo_eq (i : Nat) (k : MK) (ρ : Rho) (Q : DK) (W : XKD) : mTNo i k ρ Q W = (ownt? ρ[i]? fun ds => k ρ (fun q => Q (.bl (!(valT ds q).isSome))) W) := Eq.trans rfl rfl
theorem rd_tno {i : Nat} {σ : L2.St} {H : Hp} {Q : VK} (h : RD f W ca (mTNo i mk) σ H Q) : tDNotIn (RK f W ca mk) (tVar i) σ H Q := by
  obtain ⟨B, n, ρ, Q0, W0, R, hm, hq, hw⟩ := h
  obtain ⟨ds, eo, hm⟩ := ownt?_is hm
  obtain ⟨p, vs, es, hB, h0, hp, r⟩ := R.ownAtT eo
  refine rk_i (m := n) R hm (fun k w H2 h2 e2 R2 r2 => ?_) hw
  refine ⟨.ref p, es, ?_⟩
  obtain ⟨bb, ek, hbb, nb⟩ := r2.is
  have hp2 : H2 p = some (.dT vs) := e2 _ _ (R.ok.nS h0) hp
  have rr := r.kp R.ok e2
  refine ⟨p, valV vs k, rfl, by rw [ek]; exact DGet.t hp2 hbb, ?_⟩
  have e : (valV vs k).isSome = (valT ds k).isSome := by
    rcases rr.val (k := k) with ⟨y, z⟩ | ⟨v, d', z1, z2, z3⟩
    · rw [y, z]; rfl
    · rw [z1, z2]; rfl
  rw [e]
  exact hq _ _ H2 h2 e2 R2.ok.src (.bl _)
theorem ct_tno {i : Nat} {x : Str} {px : Pos} (hu : X.A.units + 64 < cLine) (hk : CK f X W ca a mk) (hN : X.N[i]? = some x := by rfl) (hvi : Vis X.env.scope x := by first | exact Or.inl rfl | exact Or.inr (Or.inl rfl) | exact Or.inr (Or.inr rfl)) (hd : (x == ("__debug__" : Str)) = false := by decide) (hcd : (x == ("__classdict__" : Str)) = false := by decide)
    (h1 : behindInMarks .NotIn (.Name x px) = false := by first | exact nomark _ | with_unfolding_all rfl) : CT f X W ca (.Compare a [.NotIn] [.Name x px] pos) (mTest (mTNo i mk)) :=
  PT.imp (pt_cmp (pc_dnotin (by omega) hk (pe_var hN hvi hd hcd)) h1) fun σ H Q h => rt_test (fun _ q => rd_tno q) h
end
end Hm
set_option Elab.async false
set_option linter.all false
set_option maxRecDepth 100000
set_option maxHeartbeats 2000000
namespace Hm
open PySem L2 PySem.Spec PyProof.Rows
/-! ### x = {(a, b): v} -/
def tDispT (tk tv : TE) : TE := fun σ H Q => ∀ p, H p = none → tPairs [(tk, tv)] σ (L2.upd H p (.dT [])) fun ps H2 => H2 p = some (.dT []) ∧ ∃ k b y, ps = [(.ref b, y)] ∧ H2 b = some (.tup (k.map kV)) ∧ Q (.ref p) (L2.upd H2 p (.dT [(k, y)]))
theorem pe_dispT {X : Cx} {pos : Pos} {key value : Expr} {tk tv : TE} (hu : X.A.units + 1 < cLine) (hk : PE X key tk) (hv : PE X value tv) : PE X (.Dict [some key] [value] pos) (tDispT tk tv) := by
  have h : PPs X pos [some key] [value] [(tk, tv)] := pps_cons hk hv pps_nil
  refine ⟨fun pins s σ H Q I q => ?_⟩
  have hn := I.hok.fresh (Nat.le_refl s.heap.objs.size)
  have I1 := I.laid (a := s.heap.objs.size) (o := .dT []) (h' := s.heap.push { cls := .type "dict", data := .dict #[] }) (t' := s.toks) (fun _ _ q => Heap.get?_push_of_some _ q) (Nat.le_refl _) (dt_empty s.heap I.big)
  have hl : (pairTrees [some key] [value] X.env pos).length = 1 := pairTrees_length [some key] [value] X.env pos rfl rfl
  rw [arm_eval_Dict, zip_pairTrees [some key] [value] X.env pos rfl rfl, dictDisplay_pairs _ (by intro z; rw [z] at hl; cases hl) (by rw [hl]; decide)]
  refine wpAny_bind (wpAny_standAt (wpAny_bind (wpAny_subDictH (knd := tupleKind (mixKind X.prog X.w)) (by first | exact tupleKind_room hu | exact tupleKind_room_of hu | exact (show X.A.units < cLine by omega) | (unfold tupleKind; simp; omega)) (by rw [hl]; decide) (wpAny_mono (h.run pins _ σ _ _ I1 (q _ hn)) (fun ws s2 z => ?_) fun _ _ e => e))))
  obtain ⟨ps, H2, I2, rel, e, k, b, y, ep, hb, q2⟩ := z
  subst ep
  cases rel with
  | @cons _ w _ _ h1 t =>
    cases t
    obtain ⟨r1, r2⟩ := h1
    obtain ⟨u, v⟩ := w
    cases (show u = Value.ref b from r1)
    obtain ⟨z, hd, xs, rel, dd⟩ := dt_of I2.hok e
    cases rel
    refine ⟨[(k, b, v)], ⟨rfl, rfl, key_of I2.hok hb, trivial⟩, dd, fun h' tk dd' hs => wpAny_pure ⟨.ref s.heap.objs.size, _, ?_, rfl, q2⟩⟩
    obtain ⟨q, es, ep, hq, h2, h3, h4, _, h5⟩ := dd'
    refine d_write I2 (by rw [e]; exact True.intro) hs ⟨q, hq⟩ ⟨by rw [sizeLine_eq, List.length_singleton]; decide, hd, [(k, b, v)], .cons ⟨rfl, ?_, r2⟩ .nil, q, es, ep, hq, h2, h3, h4, h5⟩
    rw [upd_ne (ne_of hb e (fun z => nomatch z))]
    exact hb
section
variable {f : FrC} {X : Cx} {W : WX} {ca cb : Nat} {a b : Expr} {ma mb : ME} {mk : MK} {pos : Pos}
def mAsgTD (i : Nat) (k : MK) (v : ME) : MS := fun ρ E => k ρ (fun q => v ρ (fun y => E.nx (ρ.set i (.ownt [(q, y)]))) (E.ex ρ)) (E.ex ρ)
@[simp] theorem mAsgTD_eq (i : Nat) (k : MK) (v : ME) (ρ : Rho) (E : DEnds) : mAsgTD i k v ρ E = k ρ (fun q => v ρ (fun y => E.nx (ρ.set i (.ownt [(q, y)]))) (E.ex ρ)) (E.ex ρ) := Eq.trans rfl rfl
theorem cs_asgTD {i : Nat} {x : Str} {p dpos : Pos} (hu : X.A.units + 64 < cLine) (hN : X.N.Nodup) (hk : CK f X W ca a mk) (hv : CE f X W cb b mb)
    (hi : X.N[i]? = some x := by rfl) (hx : Loc X.env.scope x := by first | exact Or.inl rfl | exact Or.inr rfl) (hf : X.fn x = true ∨ X.env.scope.names.lookup x = some .local := by first | exact .inl rfl | exact .inr rfl | assumption)
    (hs : swapsWithSole [.Name x p] (.Dict [some a] [b] dpos) pos.line X.env = pure false := by rfl) (hw : swappedStores [.Name x p] (.Dict [some a] [b] dpos) X.env = pure none := by rfl) : CS f X W (ca + cb) (.Assign [.Name x p] (.Dict [some a] [b] dpos) pos) (mAsgTD i mk mb) := by
  refine PS.imp (ps_asg (pe_dispT (by omega) hk hv) (pg_name (i := i) hN hi hx hf) hs hw rfl) fun De σ H h => ?_
  obtain ⟨B, n, ρ, E, R, hm, hn, hr, hb, hc, hx⟩ := h
  intro p hp
  have R1 : Rel f (fun a => B a ∨ a = p) σ (L2.upd H p (.dT [])) ρ (n + (ca + cb)) := R.hide hp
  have h0 := R.ok.h0 hp
  have ns := R.ok.nS h0
  refine rk_i (m := n + cb) (R1.mono (by omega)) hm (fun k u H1 h1 e1 R2 r1 => ?_) fun y cls dd H' q e s er => hx _ y cls dd σ H' ρ q ((R1.mono (m := n + cb) (by omega)).kp e (s.mono (by omega))) er
  refine rd_i (m := n) R2 h1 (fun y w H2 h2 e2 R3 r2 => ?_) fun y cls dd H' q e s er => hx _ y cls dd σ H' ρ q (R2.kp e s) er
  have hp' : H2 p = some (.dT []) := e2 p _ ns (e1 p _ ns upd_same)
  obtain ⟨bb, eb, hbb, nb⟩ := (r1.kp R2.ok e2).is
  refine ⟨hp', k, bb, w, by rw [eb], hbb, ?_⟩
  have hB : (fun a => B a ∨ a = p) p := .inr rfl
  have R4 : Rel f (fun a => B a ∨ a = p) σ (L2.upd H2 p (.dT [(k, w)])) ρ n := by
    refine ⟨R3.ok.upd hB h0, R3.len, fun j x o h2 h3 => ?_, R3.inj⟩
    have q := R3.sl j x o h2 h3
    cases x with
    | un => trivial
    | dat d =>
      obtain ⟨v, e1, r⟩ := q
      exact ⟨v, e1, r.upd hB⟩
    | kt d =>
      obtain ⟨v, e1, r⟩ := q
      exact ⟨v, e1, r.upd hB⟩
    | own ds' =>
      obtain ⟨p', vs, e2, b, h0', hp', r⟩ := q
      have ne : p' ≠ p := fun z => R.noSlot hp j _ h2 rfl (by rw [h3, e2, z])
      exact ⟨p', vs, e2, b, h0', by rw [upd_ne ne]; exact hp', r.upd hB⟩
    | ownd ds' =>
      obtain ⟨p', vs, e2, b, h0', hp', r⟩ := q
      have ne : p' ≠ p := fun z => R.noSlot hp j _ h2 rfl (by rw [h3, e2, z])
      exact ⟨p', vs, e2, b, h0', by rw [upd_ne ne]; exact hp', r.upd hB⟩
    | ownt ds' =>
      obtain ⟨p', vs, e2, b, h0', hp', r⟩ := q
      have ne : p' ≠ p := fun z => R.noSlot hp j _ h2 rfl (by rw [h3, e2, z])
      exact ⟨p', vs, e2, b, h0', by rw [upd_ne ne]; exact hp', r.upd hB⟩
  exact hn _ _ _ _ h2 (R4.setOwnT hB h0 (R.noSlot hp) upd_same (.cons (r2.upd hB) .nil))
end
end Hm
set_option Elab.async false
set_option linter.all false
set_option maxRecDepth 100000
set_option maxHeartbeats 2000000
namespace Hm
open PySem L2 PySem.Spec PyProof.Rows

/-! ### a def whose callers keep all lists of ints for themselves: x[1].append(e) of a list that is new -/
def FrC.IntB (f : FrC) : Prop := ∀ a (ns : List Int), f.H0 a = some (.lst (ns.map V.int)) → f.B0 a
def noIL (xs : List D) : Prop := ∀ ns : List Int, ¬ hass (ns.map D.int) xs
def mFunI (np nn : Nat) (ms : MS) : MF := fun xs Q W => noIL xs ∧ mFun np nn ms xs Q W
@[simp] theorem mFunI_eq (np nn : Nat) (ms : MS) (xs : List D) (Q : DK) (W : XKD) : mFunI np nn ms xs Q W = (noIL xs ∧ mFun np nn ms xs Q W) := Eq.trans rfl rfl
section
variable {P : Program} {w : World} {K : PySem.W.Frag} {mg : Str → Option Value} {base : Heap} {ct : Str → Option Addr}
theorem reps_ints {g : Gc} {B : Addr → Prop} {H : Hp} {ns : List Int} {es : List D} (r : Reps g B H (ns.map V.int) es) : es = ns.map D.int := by
  induction ns generalizing es with
  | nil => cases r; rfl
  | cons n ns ih =>
    cases r with
    | cons r1 r2 =>
      cases r1
      rw [ih r2]; rfl
theorem ints_reps {g : Gc} {B : Addr → Prop} {H : Hp} {ns : List Int} {vs : List V} (r : Reps g B H vs (ns.map D.int)) : vs = ns.map V.int := by
  induction ns generalizing vs with
  | nil => cases r; rfl
  | cons n ns ih =>
    cases r with
    | cons r1 r2 =>
      cases r1
      rw [ih r2]; rfl
theorem fn_dataI {x qual : Str} {st : Stmt} {fa : Addr} {fd : FuncData} {N ps : List Str} {k c : Nat} {ms : MS} (F : Fun K x qual st fa fd) (S : FnScope N ps (defScope st))
    (body : ∀ (cdv : Value) (A : Around) (outer : List Env) (s : Shared) (H : Hp) (E : XK) (f : FrC), f.g.K = K → f.g.ct = ct → (f.N = fun _ => False) → Room k (A.deeper (envOfC qual (defScope st) s.heap.objs.size fa cdv)) → f.IntB →
      CB f (cxOf (L2.CX P w) P w K mg base N qual (defScope st) fa cdv A outer s H E) (fun cls d _ H => E cls d H) c (defBody st) ms) : FnD P w K mg base ct (k + 1) fa fd ps c (mFunI ps.length N.length ms) := by
  refine F.okX S (fun vs H Q E h => ?_) (fun cdv A outer s H vs Q E hr h => ?_)
  · obtain ⟨src, B, n, ds, Q0, W0, h1, h2, h3, h4, h5, _⟩ := h
    rw [h4.length]
    exact h5.2.1
  · obtain ⟨src, B, n, ds, Q0, W0, h1, h2, h3, h4, ⟨hi, h5⟩, h6, h7⟩ := h
    have hs : ∀ a, InS ⟨K, ct, src⟩ a → PartB ⟨K, ct, src⟩ B H ds a := fun a ha => .inl (h1 a ha)
    have hd : ∀ a, PartB ⟨K, ct, src⟩ B H ds a → H a ≠ none := fun a ha => by
      rcases ha with ha | ⟨ws, _, e, _⟩
      · exact h2 a ha
      · rw [e]; exact fun z => nomatch z
    have ib : FrC.IntB ⟨⟨K, ct, src⟩, PartB ⟨K, ct, src⟩ B H ds, H, fun _ => False⟩ := fun a ns e => by
      by_cases hn : InS ⟨K, ct, src⟩ a
      · exact .inl (h1 a hn)
      · refine .inr ⟨_, hn, e, fun ⟨es, r, hh⟩ => hi ns ?_⟩
        rw [← reps_ints r]; exact hh
    refine ⟨_, body cdv A outer s H E ⟨⟨K, ct, src⟩, PartB ⟨K, ct, src⟩ B H ds, H, fun _ => False⟩ rfl rfl rfl hr ib, ?_⟩
    refine ⟨PartB ⟨K, ct, src⟩ B H ds, n, _, _, rel_start hs hd h3 (h4.part fun es h => h) h5.1, h5.2, fun B' σ' H' ρ' q R' => ?_, fun d v H' q e s' r => ?_, fun B' σ' H' ρ' q R' => q.elim, fun B' σ' H' ρ' q R' => q.elim, fun B' x cls dd σ' H' ρ' q R' er => ?_⟩
    · exact h6 _ _ H' q R'.ok.keep R'.ok.src .non
    · exact h6 d v H' q e s' (r.move fun a o h nb => ⟨h, fun z => nb (.inl (.inl z))⟩)
    · refine h7 x cls dd H' q R'.ok.keep R'.ok.src ?_
      obtain ⟨C, e1, e2, e3⟩ := er
      refine ⟨C, e1, e2, ?_⟩
      rcases e3 with e3 | ⟨d, kvs, z1, z2, z3, z4, z5⟩
      · exact .inl e3
      · exact .inr ⟨d, kvs, z1, z2, fun z => z3 (R'.ok.b0 d (.inl z)), z4.move fun a o h nb => ⟨h, fun z => nb (R'.ok.b0 a (.inl z))⟩, z5⟩
end
/-- the slot's pair of a flat datum and a list of ints -/
def pairI (o : Option Sl) (k : D → List Int → Prop) : Prop := ∃ (d : D) (ns : List Int), o = some (.dat (.tup [d, .lst (ns.map D.int)])) ∧ d.flat = true ∧ k d ns
def mAppI (i : Nat) (b : ME) : MS := fun ρ E => pairI ρ[i]? fun d ns => b ρ (fun e => (e.flat = true ∧ ns.length < sizeLine) ∧ (∀ x ∈ ρ.set i .un, x.freeOf (ns.map D.int)) ∧ E.nx (ρ.set i (.dat (.tup [d, .lst (ns.map D.int ++ [e])])))) (E.ex ρ)
@[simp] theorem mAppI_eq (i : Nat) (b : ME) (ρ : Rho) (E : DEnds) : mAppI i b ρ E = (pairI ρ[i]? fun d ns => b ρ (fun e => (e.flat = true ∧ ns.length < sizeLine) ∧ (∀ x ∈ ρ.set i .un, x.freeOf (ns.map D.int)) ∧ E.nx (ρ.set i (.dat (.tup [d, .lst (ns.map D.int ++ [e])])))) (E.ex ρ)) := Eq.trans rfl rfl
section
variable {f : FrC} {X : Cx} {W : WX} {ca cb cc : Nat} {a b c : Expr} {es : List Expr} {ma mb mc : ME} {mt : MT} {mas : MA} {pos : Pos} {ms : MS} {B : Addr → Prop} {σ : L2.St} {H : Hp} {ρ : Rho} {n : Nat} {body : List Stmt}
/-- as Rel.putD, the list new since the frame's entry -/
theorem Rel.putI {H2 : Hp} {p : Addr} {vs us : List V} {ds : List D} {m : Nat} (dj : ∀ a o, f.g.K.lookup a = some o → H a = none) (h0 : f.H0 p = none) (R : Rel f B σ H ρ n) (R2 : Rel f B σ H2 ρ m) (hp : H p = some (.lst vs)) (nb : ¬ B p) (rs : Reps f.g B H vs ds) (hl : noLs ds = true) (hp2 : H2 p = some (.lst vs))
    (hf : ∀ x ∈ ρ, x.freeOf ds) : Rel f B σ (L2.upd H2 p (.lst us)) ρ m := by
  have nS : ¬ InS f.g p := fun z => nb (R.ok.inB z)
  have mvT : ∀ a xs, H2 a = some (.tup xs) → ¬ B a → L2.upd H2 p (.lst us) a = some (.tup xs) ∧ ¬ B a := fun a xs h nb => ⟨by
    rw [upd_ne (fun z => by rw [z, hp2] at h; cases h)]; exact h, nb⟩
  refine ⟨⟨R2.ok.s0, R2.ok.d0, R2.ok.b0, R2.ok.ow, fun a h => ?_, fun a u ns h => ?_, R2.ok.src.upd nS⟩, R2.len, fun j x o h1 h2 => ?_, R2.inj⟩
  · rw [upd_ne (fun z : a = p => nb (by rw [← z]; exact h))]
    exact R2.ok.dom a h
  · rw [upd_ne (fun z : a = p => by rw [z, h0] at h; cases h)]
    exact R2.ok.keep a u ns h
  · have q := R2.sl j x o h1 h2
    have q0 := R.sl j x o h1 h2
    have hx := hf x (List.mem_of_getElem? h1)
    cases x with
    | un => trivial
    | own es =>
      obtain ⟨p', ws, e1, b, h0, hp', r⟩ := q
      exact ⟨p', ws, e1, b, h0, by rw [upd_ne (fun z : p' = p => nb (by rw [← z]; exact b))]; exact hp', r.moveT mvT (by simpa using hx)⟩
    | ownt _ => exact hx.elim
    | kt _ => exact hx.elim
    | ownd es => exact hx.elim
    | dat d =>
      obtain ⟨v, e1, r⟩ := q
      obtain ⟨v0, e0, r0⟩ := q0
      rw [e1] at e0; cases e0
      refine ⟨v, e1, ?_⟩
      cases d with
      | src =>
        cases r with
        | src e => exact .src e
      | lst es =>
        rw [sfreeOf_dat, freeOf_lst] at hx
        cases r with
        | @lst q ws _ hq nq rq =>
          cases r0 with
          | @lst _ ws0 _ hq0 nq0 rq0 =>
            have ne : q ≠ p := fun z => by
              rw [z, hp] at hq0; cases hq0
              exact hx.2 (Reps.fn dj rq0 rs hx.1 hl)
            exact .lst (by rw [upd_ne ne]; exact hq) nq (rq.moveT mvT hx.1)
      | non => exact r.moveT mvT rfl
      | bl _ => exact r.moveT mvT rfl
      | int _ => exact r.moveT mvT rfl
      | str _ => exact r.moveT mvT rfl
      | tup xs => exact r.moveT mvT (by simpa using hx)
      | dct _ => simp [Sl.freeOf, D.freeOf, D.noL] at hx
      | exc _ _ => simp [Sl.freeOf, D.freeOf, D.noL] at hx
      | obj _ _ => simp [Sl.freeOf, D.freeOf, D.noL] at hx
theorem flat_intsB {l : List Int} : (l.map D.int).all D.flat = true := by
  rw [List.all_map, List.all_eq_true]
  intro x _; rfl
theorem noL_flat {d : D} (h : d.flat = true) : d.noL = true := by
  cases d <;> first | rfl | cases h
theorem cs_appI {i : Nat} {x : Str} {px ipos kpos apos cpos : Pos} {j} (hK : f.g.K = X.K) (ib : f.IntB) (hb : CE f X W cb b mb) (hN : X.N[i]? = some x := by rfl) (hv : Vis X.env.scope x := by first | exact Or.inl rfl | exact Or.inr (Or.inl rfl) | exact Or.inr (Or.inr rfl)) (hd : (x == ("__debug__" : Str)) = false := by decide) (hcd : (x == ("__classdict__" : Str)) = false := by decide)
    (hbase : attributeBase (.Subscript (.Name x px) (.Constant (.int 1) j kpos) ipos) "append" X.env (eval (.Subscript (.Name x px) (.Constant (.int 1) j kpos) ipos) X.env) = eval (.Subscript (.Name x px) (.Constant (.int 1) j kpos) ipos) X.env := by rfl)
    (hfew : ((backTo cpos (starEach [b] X.env)).all (fun x => !x.1) && (backToKw cpos (keywordEach [] X.env)).all (fun x => x.1.isSome)
      && decide ([b].length + ([] : List Keyword).length + (if ([] : List Keyword).isEmpty then 0 else 1) < 30)) = true := by rfl)
    (hline : (apos.endLine == cpos.line) = true := by rfl) (hst : starEach [b] X.env = (false, eval b X.env) :: starEach [] X.env := by rfl) (hplain : (backTo cpos (starEach [] X.env)).any (·.1) = false := by rfl)
    (hs : swapsWith (.Call (.Attribute (.Subscript (.Name x px) (.Constant (.int 1) j kpos) ipos) "append" apos) [b] [] cpos) none pos.line X.env = pure false := by rfl) :
    CS f X W cb (.Expr (.Call (.Attribute (.Subscript (.Name x px) (.Constant (.int 1) j kpos) ipos) "append" apos) [b] [] cpos) pos) (mAppI i mb) :=
  PS.impI (ps_expr (pe_bm PySem.F.plainAttrs_list PySem.F.slot_list_append PySem.F.type_list_append mt_append (pe_ix ix_seq (pe_var hN hv hd hcd) pe_int (fun _ _ => rfl)) (pa_cons hb pa_nil hst) hbase hfew hline hst hplain) hs) fun De σ H dj h => by
    obtain ⟨B, n, ρ, E, R, hm, hn, hr, hb, hc, hx⟩ := h
    rw [← hK] at dj
    obtain ⟨d, ns, ey, hdf, hm⟩ := hm
    have hli : i < σ.length := by rw [R.len]; exact (List.getElem?_eq_some_iff.mp ey).1
    have hlr : i < ρ.length := (List.getElem?_eq_some_iff.mp ey).1
    obtain ⟨v, ev, r⟩ := R.sl i _ _ ey (List.getElem?_eq_getElem hli)
    have ev' : σ[i]? = some (some v) := by rw [List.getElem?_eq_getElem hli, ev]
    have hI : ∃ (u0 : V) (p : Addr) (vs : List V), Rep f.g B H u0 d ∧ H p = some (.lst vs) ∧ ¬ B p ∧ Reps f.g B H vs (ns.map D.int) ∧ (∀ Qv : VK, Qv (.ref p) H → rIx X.K v (.int 1) H Qv) ∧
        ∀ H', (∀ a xs, H a = some (.tup xs) → ¬ B a → H' a = some (.tup xs)) → ∀ y, Reps f.g B H' [u0, .ref p] y → Rep f.g B H' v (.tup y) := by
      cases r with
      | @tup a xs ds ha nb rs =>
        cases rs with
        | @cons u0 _ _ _ r0 rs =>
        cases rs with
        | @cons u1 _ _ _ r1 rs =>
        cases rs
        cases r1 with
        | @lst p vs _ hp nbp rl =>
        exact ⟨u0, p, vs, r0, hp, nbp, rl, fun Qv q => .inr (.inl ⟨a, _, 1, _, rfl, rfl, .inl (.inl ha), rfl, q⟩), fun H' k y ry => .tup (k a _ ha nb) nb ry⟩
      | @wtup a xs ds ha rs =>
        cases rs with
        | @cons u0 _ _ _ r0 rs =>
        cases rs with
        | @cons u1 _ _ _ r1 rs =>
        cases rs
        cases r1 with
        | @lst p vs _ hp nbp rl =>
        exact ⟨u0, p, vs, r0, hp, nbp, rl, fun Qv q => .inr (.inl ⟨a, _, 1, _, rfl, rfl, .inr (hK ▸ ha), rfl, q⟩), fun H' k y ry => .wtup ha ry⟩
    obtain ⟨u0, p, vs, r0, hp, nb, rl, hI, hmk⟩ := hI
    have hvs : vs = ns.map V.int := ints_reps rl
    have h0 : f.H0 p = none := by
      cases z : f.H0 p with
      | none => rfl
      | some o =>
        exfalso
        have nS : ¬ InS f.g p := fun z => nb (R.ok.inB z)
        have := R.ok.keep p o nS z
        rw [hp] at this; cases this
        exact nb (R.ok.b0 p (ib p ns (by rw [z, hvs])))
    refine ⟨v, ev', hI _ ⟨.inl ⟨rfl, vs, .inl (.inl hp)⟩, ?_⟩⟩
    refine rd_i (m := n) R hm (fun e w H2 h2 e2 R2 r2 => ?_) fun x cls dd H' q e s er => hx B x cls dd σ H' ρ q (R.kp e s) er
    have hp2 : H2 p = some (.lst vs) := e2 _ _ (fun z => nb (R.ok.inB z)) hp
    refine ⟨p, vs, w, rfl, rfl, hp2, by rw [rl.length, List.length_map]; exact h2.1.2, ?_⟩
    have R3 := Rel.putI (us := vs ++ [w]) dj h0 R.unIf R2.unIf hp nb rl noLs_ints hp2 h2.2.1
    have r0' : Rep f.g B (L2.upd H2 p (.lst (vs ++ [w]))) u0 d := r0.any hdf
    have rl' : Reps f.g B (L2.upd H2 p (.lst (vs ++ [w]))) (vs ++ [w]) (ns.map D.int ++ [e]) := (Reps.flatAny rl flat_intsB).append (.cons (r2.any h2.1.1) .nil)
    have rT := hmk (L2.upd H2 p (.lst (vs ++ [w]))) (fun a xs ha nba => by
      rw [upd_ne (fun z : a = p => by rw [z, hp] at ha; cases ha)]
      exact e2 _ _ (fun z => nba (R.ok.inB z)) ha) [d, .lst (ns.map D.int ++ [e])] (.cons r0' (.cons (.lst upd_same nb rl') .nil))
    have R4 := R3.set (i := i) rT
    rw [List.set_set] at R4
    have es : List.set σ i (some v) = σ := by
      apply List.ext_getElem?
      intro j
      by_cases c : i = j
      · subst c; rw [List.getElem?_set_self hli, ev']
      · rw [List.getElem?_set_ne c]
    rw [es] at R4
    exact hn B σ _ _ h2.2.2 R4
end
end Hm
set_option Elab.async false
set_option linter.all false
set_option maxRecDepth 100000
set_option maxHeartbeats 3200000
namespace Hm
open PySem L2 PySem.Spec PyProof.Rows

/-! ### sorted(set(xs)), xs a list of ints -/
section
variable {P : Program} {w : World} {A : Around} {E : Value → Shared → Prop} {s : Shared}
/-- a class of the machine called: the code of its __init__ is asked for as it is -/
theorem ty_call {T nw ini : String} {args : List Value} {Q Q1 : Value → Shared → Prop} (ft : TypeCalled T nw ini) (hct : checkTypeCall T ⟨args, []⟩ = pure ()) (hn : codeAny (model P w) A.in1 (.call (.builtin nw) ⟨.type T :: args, []⟩) (wants Q1 E) s)
    (hi : ∀ o s1, Q1 o s1 → s1.TypeIs o T ∧ codeAny (model P w) A.in1 (.call (.builtin ini) ⟨o :: args, []⟩) (wants (fun r s2 => r = .none ∧ Q o s2) E) s1) : wpAny (model P w) A (call (.type T) args) Q E s := by
  obtain ⟨c, tl, f1⟩ := ft.mro
  have f2 := ft.made; have f3 := ft.sub; have f4 := ft.notType; have f5 := ft.canCreate
  refine wpAny_call (codeAny_of_tree (show wpAny _ _ (callAny (.type T) _) _ _ _ from wpAny_pure ⟨Code.quiet_builtin _ (by decide +kernel), codeAny_builtin PySem.F.entry_type_call ?_⟩))
  rw [Around.under_plain (weight_type_call_type T args []) rfl]
  repeat (any_goals (first | assumption | wp_step))
  refine codeAny_mono hn fun r s1 q => ?_
  match r, q with
  | .error e, q => exact q
  | .ok (.ret o), q =>
    obtain ⟨t1, ci⟩ := hi _ _ q
    have f6 := ft.init.lookup; have f7 := ft.init.bind o
    repeat (any_goals (first | assumption | wp_step))
    refine codeAny_mono ci fun r2 s2 q2 => ?_
    match r2, q2 with
    | .error e, q2 => exact q2
    | .ok (.ret _), ⟨rfl, q2⟩ => repeat (any_goals (first | assumption | wp_step))
abbrev emp (w : World) : Obj := { cls := .type "set", dict := none, data := .set #[] 0 (.fresh 0 0 (!w.params.followText "set-order")) }
theorem set_of_list {l : Addr} {its : Array Value} (ns : List Int) {Q : Value → Shared → Prop} (nh : A.handled = none) (lk : s.heap.IsList l its) (it : IntsAre its.toList ns) (few : ns.length + 1 < scanBound)
    (k : ∀ (h' : Heap) (tk c : Nat), SetR w h' s.heap.objs.size (fun j => decide (j ∈ ns)) c → c ≤ ns.length → (∀ b o, s.heap.get? b = some o → h'.get? b = some o) → Q (.ref s.heap.objs.size) { s with heap := h', toks := tk }) :
    wpAny (model P w) A (call (.type "set") [.ref l]) Q E s := by
  refine ty_call (Q1 := fun o s1 => o = .ref s.heap.objs.size ∧ s1 = { s with heap := s.heap.push (emp w) }) PySem.F.called_set (PySem.F.typeCall_set_1 _) (code_set_led1 _ ⟨rfl, rfl⟩) ?_
  rintro _ _ ⟨rfl, rfl⟩
  have at0 : (s.heap.push (emp w)).get? s.heap.objs.size = some (emp w) := Heap.get?_push_size _ rfl
  have ty0 : Shared.TypeIs { s with heap := s.heap.push (emp w) } (.ref s.heap.objs.size) "set" := ⟨_, at0, rfl⟩
  refine ⟨ty0, codeAny_call_builtin PySem.F.called_set.init.plain PySem.F.entry_set_init (check_set_init_1 ty0 ?_)⟩
  have zn : its.size = ns.length := by have := it.length; rwa [Array.length_toList] at this
  obtain ⟨⟨_, od, _, os⟩, ol, rfl, nl, rfl⟩ := id lk
  have ol2 := Heap.get?_push_of_some (emp w) ol
  have lk2 : (s.heap.push (emp w)).IsList l its := ⟨_, ol2, rfl, nl, rfl⟩
  have y1 := PySem.F.sub_list_set; have y2 := PySem.F.sub_list_frozenset
  have y3 : (Value.type "list" == Value.type "dict") = false := by decide
  have lz : l < s.heap.objs.size := Heap.lt_size ol
  have sz : (s.heap.push (emp w)).objs.size = s.heap.objs.size + 1 := Heap.size_push ..
  unfold Builtin.«set.__init__» Builtin.Frozenset.updateFrom noKeywords
  generalize ep : pyIter = PI
  wp_walk
  subst ep
  refine wpAny_pyIter_list lk2 (wpAny_bind (wpAny_runValue (set_update_ints (Walks.list (by simp [nh]) _ l (by rw [sz]; exact Nat.ne_of_lt (Nat.lt_succ_of_lt lz)) its).toS s.heap.objs.size ?_ ns zn few ?_ its.size 0 _ (by omega) (Nat.zero_le _) ⟨⟨_, Heap.get?_push_size _ rfl, rfl, rfl⟩, lk2.push _⟩ ⟨0, Nat.le_refl 0, setR_new_at (Heap.get?_push_of_some _ at0)⟩ ?_)))
  · rw [sz]
    simp only [List.mem_cons, List.not_mem_nil, or_false, not_or]
    exact ⟨Nat.ne_of_lt (Nat.lt_succ_self _), Nat.ne_of_gt lz⟩
  · intro i v hv
    have hi : i < ns.length := by rw [← zn]; exact (Array.getElem?_eq_some_iff.mp hv).1
    obtain ⟨t, e⟩ := IntsAre.int_at it i v (by rw [Array.getElem?_toList]; exact hv)
    exact ⟨ns[i], t, List.getElem?_eq_getElem hi, by rw [e, List.getD_eq_getElem?_getD, List.getElem?_eq_getElem hi]; rfl⟩
  · rintro ⟨h', g2, d2, t2, o2⟩ c mv hc hS
    obtain rfl : g2 = s.gens := mv.gens
    obtain rfl : d2 = s.drawn := mv.drawn
    obtain rfl : o2 = s.os := mv.os
    refine wpAny_pure (wpAny_pure ⟨rfl, k h' t2 c hS (by omega) fun b o e => ?_⟩)
    have bl := Heap.lt_size e
    refine mv.heap b o ?_ (Heap.get?_push_of_some _ (Heap.get?_push_of_some _ e))
    rw [sz]
    simp only [List.mem_cons, List.not_mem_nil, or_false, not_or]
    exact ⟨Nat.ne_of_lt bl, Nat.ne_of_lt (Nat.lt_succ_of_lt bl)⟩
/-- the sorted members, any number of them -/
theorem sorted_setI {a : Addr} {S : Int → Bool} {n : Nat} {Q : Value → Shared → Prop} (R : SetR w s.heap a S n) (nh : A.handled = none)
    (k : ∀ s' p (out : List Value) (c : Nat) (ns : List Int), (∀ b o, s.heap.get? b = some o → s'.heap.get? b = some o) → s'.gens = s.gens → s'.os = s.os → s.heap.objs.size ≤ p → s'.heap.get? p = some (seqObj "list" out.toArray c) → IntsAre out ns → ns.Pairwise (· < ·) → (∀ z, z ∈ ns ↔ S z = true) → ns.length = n → n < scanBound → Q (.ref p) s') :
    wpAny (model P w) A (call (.builtin "sorted") [.ref a]) Q E s := by
  obtain ⟨o, es, ep, t, ho, hex, hd, g, nd, hm, hb, hf, hn, hr, hl⟩ := R
  refine Calls.call_function_entry kind_sorted plain_sorted entry_sorted (args_sorted1 _) (show wpAny _ _ (Builtin.«sorted» _) _ _ _ from ?_)
  unfold Builtin.«sorted»
  refine wpAny_bind (m := checkCount "sorted" 1 1 _) (wpAny_pure (wpAny_bind (collect_set (A := A.in1) nh ⟨o, ho, hex.1, hd⟩ hf hb hr hl fun s1 vs k1 z1 g1 o1 pm => ?_)))
  have vl : vs.length = n := by rw [pm.length_eq, List.length_map, Array.length_toList]; exact hn
  have vz : vs.length ≤ sizeLine := by rw [vl, ← hn]; exact fits_of_scanBound hb
  have hI : IntsAre vs (vs.map SrtO.iv) := SrtO.ints_iv fun v hv => by
    obtain ⟨e, he, q⟩ := List.mem_map.mp (pm.mem_iff.mp hv)
    obtain ⟨j, tk, h1, _⟩ := g e he
    exact ⟨j, tk, q ▸ h1⟩
  have pk : (vs.map SrtO.iv).Perm (es.toList.map keyOf) := by
    have q := pm.map SrtO.iv
    rw [List.map_map] at q
    refine q.trans (List.Perm.of_eq (List.map_congr_left fun e he => ?_))
    obtain ⟨j, tk, h1, _⟩ := g e he
    show SrtO.iv e.2 = keyOf e
    unfold keyOf
    rw [h1]; rfl
  refine wpAny_bind (wpAny_newList ?_ vz)
  have oL : (s1.heap.push (seqObj "list" vs.toArray 0)).get? s1.heap.objs.size = some (seqObj "list" vs.toArray 0) := Heap.get?_push_size _ rfl
  refine wpAny_bind (wpAny_holding (wpAny_call_entry slot_list_sort ⟨_, oL, rfl⟩ entry_list_sort (SrtO.list_sort_ord SrtO.swo_int oL vz (fun h2 => SrtO.ints_sortable hI h2) fun out h1 h2 => ⟨_, rfl, ?_⟩) (args_list_sort _)))
  obtain ⟨i1, i2, i3⟩ := SrtO.ints_out hI h1 h2
  obtain ⟨c, hc⟩ := sortedHeap_at (vs := vs) (out := out.toArray) oL
  have pn := i2.trans pk
  refine wpAny_pure ⟨_, rfl, k _ s1.heap.objs.size out c (out.map SrtO.iv) (fun b u e => ?_) g1 o1 z1 hc i1 (lt_of_le_nodup _ i3 (pn.nodup_iff.mpr nd)) (fun z => by rw [pn.mem_iff, ← hm z]) ?_ (hn ▸ hb)⟩
  · have q := k1 b u e
    have ql := Heap.lt_size q
    refine (sortedHeap_old (Nat.ne_of_lt ql) ?_).trans (Heap.get?_push_of_some _ q)
    rw [size_push']
    exact Nat.lt_succ_of_lt ql
  · rw [pn.length_eq, List.length_map, Array.length_toList]; exact hn
end
section
variable {X : Cx}
def rSetL (K : PySem.W.Frag) (w : World) : List V → Hp → VK → Prop := fun vs H Q => ∃ (a : Addr) (ns : List Int), vs = [V.ref a] ∧ SqL K H a (ns.map V.int) ∧ ns.length + 1 < scanBound ∧ ∀ p c, H p = none → Q (.ref p) (L2.upd H p (SetO w p (fun j => decide (j ∈ ns)) c))
theorem cr_setL (hc : X.calm = true) : CallR X (.type "set") (rSetL X.K X.w) := by
  intro pins s σ H vs us Q I r h
  obtain ⟨a, ns, rfl, hs, few, q⟩ := h
  obtain ⟨its, rv, hl, hz⟩ := I.list hs
  rw [Vals.ref1 r]
  refine set_of_list ns (I.ok.hd hc) hl.isList (by simpa using rv.ints) few fun h' tk c R _ k => ?_
  exact ⟨.ref _, L2.upd H s.heap.objs.size (SetO X.w s.heap.objs.size (fun j => decide (j ∈ ns)) c), I.laid (t' := tk) k (Nat.le_refl _) (setO_new R), rfl, q _ _ (I.hok.fresh (Nat.le_refl _))⟩
def rSrtSet (w : World) : List V → Hp → VK → Prop := fun vs H Q => ∃ (a : Addr) (S : Int → Bool) (n : Nat), vs = [V.ref a] ∧ H a = some (SetO w a S n) ∧
  ∀ (ns : List Int) (p : Addr), ns.Pairwise (· < ·) → (∀ k : Int, k ∈ ns ↔ S k = true) → H p = none → Q (.ref p) (L2.upd H p (.lst (ns.map V.int)))
theorem cr_srtSet (hc : X.calm = true) : CallR X (.builtin "sorted") (rSrtSet X.w) := by
  intro pins s σ H vs us Q I r h
  obtain ⟨a, S, n, rfl, ha, q⟩ := h
  rw [Vals.ref1 r]
  refine sorted_setI (setO_get I ha) (I.ok.hd hc) fun s' p out c ns k g o hp hg hi hs hm hl hb => ?_
  have few : (ns.map V.int).length ≤ sizeLine := by rw [List.length_map, hl]; exact fits_of_scanBound hb
  have fr : H p = none := I.hok.fresh hp
  obtain ⟨h1, g1, d1, t1, o1⟩ := s'
  obtain ⟨h0, g0, d0, t0, o0⟩ := s
  cases g
  cases o
  exact ⟨.ref p, L2.upd H p (.lst (ns.map V.int)), I.call (ch := []) (Un.laid k hp fr) (I.hok.laid k hp ⟨few, out, c, vals_of_ints hi, hg⟩) I.bare (fun _ z => nomatch z), rfl, q ns p hs hm fr⟩
end
/-- sorted(set(e)) -/
def mSrtSet (a : ME) : MA := fun ρ Q W => a ρ (fun d => asL d fun xs => ∃ ns : List Int, xs = ns.map D.int ∧ ns.length < 4000 ∧ ∀ rs : List Int, rs.Pairwise (· < ·) → (∀ z, z ∈ rs ↔ z ∈ ns) → Q (rs.map D.int)) W
@[simp] theorem mSrtSet_eq (a : ME) (ρ : Rho) (Q : List D → Prop) (W : XKD) : mSrtSet a ρ Q W = a ρ (fun d => asL d fun xs => ∃ ns : List Int, xs = ns.map D.int ∧ ns.length < 4000 ∧ ∀ rs : List Int, rs.Pairwise (· < ·) → (∀ z, z ∈ rs ↔ z ∈ ns) → Q (rs.map D.int)) W := Eq.trans rfl rfl
section
variable {f : FrC} {X : Cx} {W : WX} {ca cb cc : Nat} {a b c : Expr} {es : List Expr} {ma mb mc : ME} {mas : MA} {pos : Pos}
theorem cl_srtSet {p p2 q : Pos} (hK : f.g.K = X.K) (hc : X.calm = true) (hg : Gl X "sorted") (hm : X.mg "sorted" = none) (hg2 : Gl X "set") (hm2 : X.mg "set" = none) (ha : CE f X W ca a ma)
    (h1 : starEach [a] X.env = [(false, eval a X.env)] := by rfl) (h2 : starEach [.Call (.Name "set" p2) [a] [] q] X.env = [(false, eval (.Call (.Name "set" p2) [a] [] q) X.env)] := by rfl) :
    CL f X W ca (.Call (.Name "sorted" p) [.Call (.Name "set" p2) [a] [] q] [] pos) (mSrtSet ma) :=
  PE.imp (pe_callB (cr_srtSet hc) hg hm (by decide +kernel) (pa_cons (pe_callTy (cr_setL hc) hg2 hm2 (by decide +kernel) (pa_cons ha pa_nil h1) (by decide) (by decide) h1 rfl) pa_nil h2) (by decide) (by decide) h2 rfl) fun σ H Q h => by
    obtain ⟨B, n, ρ, Q0, W0, R, hm, hq, hw⟩ := h
    refine rd_i (m := n) R hm (fun d v H1 h1 e1 R1 r1 => ?_) hw
    obtain ⟨xs, rfl, ns, rfl, few, k⟩ := asL_is h1
    cases r1 with
    | @lst l vs _ hl nb rs =>
      have := ints_reps rs
      subst this
      refine ⟨l, ns, rfl, .inl (.inl hl), by unfold scanBound; omega, fun p0 c hp0 => ?_⟩
      refine ⟨p0, _, c, rfl, upd_same, fun rs' p1 q1 q2 hp1 => ?_⟩
      have ne : p1 ≠ p0 := fun z => by rw [z, upd_same] at hp1; cases hp1
      have hp1' : H1 p1 = none := by rwa [upd_ne ne] at hp1
      have gw : Gw H1 (L2.upd (L2.upd H1 p0 (SetO X.w p0 (fun j => decide (j ∈ ns)) c)) p1 (.lst (rs'.map V.int))) := (Gw.new hp0).trans (Gw.new hp1)
      refine hq _ p1 _ _ (k rs' q1 fun z => by rw [q2 z]; simp) (e1.trans gw.kp) (gw.src R1.ok.src) ?_ upd_same (Reps.ints _)
      exact e1.none R1.ok.dom (fun a h => R1.ok.inB h) hp1'
end
end Hm
set_option Elab.async false
set_option linter.all false
set_option maxRecDepth 100000
set_option maxHeartbeats 2000000
namespace Hm
open PySem L2 PySem.Spec PyProof.Rows
/-! ### texts: s * n, s.join(xs) -/
def CMulS (z : Str) (k : Int) : Prop := -(2 ^ 63) ≤ k ∧ k ≤ 16777216 ∧ z.length * k.toNat ≤ 16777216
def rMulS : R2 := fun x y H Q => ∃ z k, x = .str z ∧ y = .int k ∧ CMulS z k ∧ Q (.str (Txt.mul z k)) H
def dMulS : D → D → DK → Prop
  | .str z, .int k, Q => CMulS z k ∧ Q (.str (Txt.mul z k))
  | _, _, _ => False
@[simp] theorem dMulS_eq {z : Str} {k : Int} {Q : DK} : dMulS (.str z) (.int k) Q = (CMulS z k ∧ Q (.str (Txt.mul z k))) := Eq.trans rfl rfl
def dJoin : D → D → DK → Prop
  | .str a, .lst xs, Q => ∃ ys : List Str, xs = ys.map D.str ∧ (ys.map (·.length)).sum + ys.length * a.length ≤ 16777216 ∧ Q (.str (Txt.join a ys))
  | _, _, _ => False
theorem dJoin_eq {a : Str} {xs : List D} {Q : DK} : dJoin (.str a) (.lst xs) Q = ∃ ys : List Str, xs = ys.map D.str ∧ (ys.map (·.length)).sum + ys.length * a.length ≤ 16777216 ∧ Q (.str (Txt.join a ys)) := Eq.trans rfl rfl
section
variable {X : Cx} {K : PySem.W.Frag}
theorem op_mulS : OpR X (binaryOp .Mult) rMulS := by
  intro pins s σ H x y v u Q I rx ry h
  obtain ⟨z, k, rfl, rfl, ⟨c1, c2, c3⟩, q⟩ := h
  obtain ⟨t, rfl⟩ := rx
  obtain ⟨t', rfl⟩ := ry
  exact PySem.SB.mul (mulOk_of z.length k.toNat (Nat.le_refl _) (by omega) c1 (by omega) c3) fun t' k' => ⟨.str _, H, I.tok k', ⟨t', rfl⟩, q⟩
theorem od_mulS : OpD K rMulS dMulS := od_plain fun g B H vx vy x y Q0 Q hK rx ry h k => by
  cases rx with
  | str z =>
    cases ry with
    | int i => exact ⟨z, i, rfl, rfl, h.1, k _ _ h.2 (.str _)⟩
    | _ => exact h.elim
  | _ => exact h.elim
end
theorem reps_strs {g : Gc} {B : Addr → Prop} {H : Hp} : ∀ {ys : List Str} {vs : List V}, Reps g B H vs (ys.map D.str) → vs = ys.map V.str
  | [], _, .nil => rfl
  | y :: r, _, .cons q t => by
    cases q
    rw [reps_strs t]; rfl
def asStr : D → (Str → Prop) → Prop
  | .str z, Q => Q z
  | _, _ => False
@[simp] theorem asStr_eq {z : Str} {Q : Str → Prop} : asStr (.str z) Q = Q z := Eq.trans rfl rfl
def mJoin (a b : ME) : ME := fun ρ Q W => a ρ (fun x => asStr x fun z => b ρ (fun y => dJoin (.str z) y Q) W) W
@[simp] theorem mJoin_eq (a b : ME) (ρ : Rho) (Q : DK) (W : XKD) : mJoin a b ρ Q W = a ρ (fun x => asStr x fun z => b ρ (fun y => dJoin (.str z) y Q) W) W := Eq.trans rfl rfl
/-! range(a, b, c), c written and positive -/
def rngC (lo c : Int) (n : Nat) : List D := (List.range n).map fun i => D.int (lo + (i : Nat) * c)
def mLcR3 (a b : ME) (c : Int) (g : MG) (t : MT) (e : ME) (vs : List Nat) : MA := fun ρ Q W => a ρ (fun x => b ρ (fun y => asI x fun i => asI y fun j => ∃ n, RgC i j c n ∧ mLcL g t e (wipeD ρ vs) (rngC i c n) [] Q) W) W
@[simp] theorem mLcR3_eq (a b : ME) (c : Int) (g : MG) (t : MT) (e : ME) (vs : List Nat) (ρ : Rho) (Q : List D → Prop) (W : XKD) : mLcR3 a b c g t e vs ρ Q W = a ρ (fun x => b ρ (fun y => asI x fun i => asI y fun j => ∃ n, RgC i j c n ∧ mLcL g t e (wipeD ρ vs) (rngC i c n) [] Q) W) W := Eq.trans rfl rfl
/-! calls with keywords: the values put in the parameters' order by their places -/
def pickL {α : Type} : List Nat → List α → List α
  | [], _ => []
  | i :: is, xs => match xs[i]? with
    | some x => x :: pickL is xs
    | none => pickL is xs
@[simp] theorem pickL_nil {α : Type} (xs : List α) : pickL [] xs = [] := Eq.trans rfl rfl
@[simp] theorem pickL_cons {α : Type} (i : Nat) (is : List Nat) (xs : List α) : pickL (i :: is) xs = match xs[i]? with | some x => x :: pickL is xs | none => pickL is xs := Eq.trans rfl rfl
theorem Reps.pick {g : Gc} {B : Addr → Prop} {H : Hp} {vs : List V} {ds : List D} (r : Reps g B H vs ds) : ∀ is : List Nat, Reps g B H (pickL is vs) (pickL is ds)
  | [] => .nil
  | i :: is => by
    rw [pickL_cons, pickL_cons]
    by_cases h : i < ds.length
    · obtain ⟨v, e, q⟩ := r.get (List.getElem?_eq_getElem h)
      rw [e, List.getElem?_eq_getElem h]
      exact .cons q (Reps.pick r is)
    · rw [List.getElem?_eq_none (show ds.length ≤ i by omega), List.getElem?_eq_none (show vs.length ≤ i by rw [r.length]; omega)]
      exact Reps.pick r is
theorem vals_pick {vs : List V} {us : List Value} (r : Vals vs us) : ∀ is : List Nat, Vals (pickL is vs) (pickL is us)
  | [] => .nil
  | i :: is => by
    rw [pickL_cons, pickL_cons]
    by_cases h : i < vs.length
    · obtain ⟨v, e, q⟩ := Vals.get r (List.getElem?_eq_getElem h)
      rw [e, List.getElem?_eq_getElem h]
      exact .cons q (vals_pick r is)
    · rw [List.getElem?_eq_none (show vs.length ≤ i by omega), List.getElem?_eq_none (show us.length ≤ i by rw [← r.length]; omega)]
      exact vals_pick r is
/-- how a call with keywords binds -/
def KbT (K : PySem.W.Frag) (fd : FuncData) (ps : List Str) (n : Nat) (ks : List Str) (is : List Nat) (df : List V) : Prop := ∃ mv : List Value, KBn K fd ps n ks (fun us ws => pickL is (us ++ (mv ++ ws))) (fun vs zs => pickL is (vs ++ (df ++ zs)))
theorem kbt_of {K : PySem.W.Frag} {fd : FuncData} {ps ks : List Str} {n : Nat} {is : List Nat} {D : Addr} (ms : List (Str × V)) (hq : ∀ q ∈ ms, ∃ u, PySem.W.nsIn K D q.1 = some (some u) ∧ RelV q.2 u)
    (h : ∀ us mv ws : List Value, us.length = n → mv.length = ms.length → ws.length = ks.length → KwChain D ((ms.map (·.1)).zip mv) (bindArgs fd ⟨us, ks.zip ws⟩) (ps.zip (pickL is (us ++ (mv ++ ws))))) : KbT K fd ps n ks is (ms.map (·.2)) := by
  obtain ⟨mv, hl, rk, hks⟩ := kwd_vals hq
  exact ⟨mv, ⟨fun s us ws X l1 l2 => BindsTo.of_looks fun M => KwChain.looks X hks (h us mv ws l1 hl l2), fun r1 r2 => vals_pick (r1.append (rk.append r2)) is⟩⟩
/-- no default is wanted -/
theorem kbt_all {K : PySem.W.Frag} {fd : FuncData} {ps ks : List Str} {n : Nat} {is : List Nat} (h : ∀ us ws : List Value, us.length = n → ws.length = ks.length → bindArgs fd ⟨us, ks.zip ws⟩ = pure (ps.zip (pickL is (us ++ ws)))) : KbT K fd ps n ks is [] :=
  ⟨[], ⟨fun s us ws X l1 l2 => BindsTo.of_looks fun M => PySem.W.Looks.of_pure (h us ws l1 l2), fun r1 r2 => vals_pick (r1.append r2) is⟩⟩
section
variable {X : Cx} {CX : CXT} {k n : Nat} {f : Addr} {fd : FuncData} {ps ks : List Str} {sp : Sp} {E : L2.St → XK} {x : Str} {p pos : Pos} {e : Expr} {es : List Expr} {kws : List Keyword} {t tk : TA} {g : List Value → List Value → List Value} {gV : List V → List V → List V}
def tCallNS (n m : Nat) (sp : Sp) (gV : List V → List V → List V) (E : L2.St → XK) (t tk : TA) : TE := fun σ H Q => t σ H fun vs H1 => tk σ H1 fun zs H2 => vs.length = n ∧ zs.length = m ∧ sp (gV vs zs) H2 Q (E σ)
theorem run_fnNS {pins : List (Addr × Obj)} {σ : L2.St} {H : Hp} {s : Shared} {Q : VK} {us ws : List Value} {vs zs : List V} (F : FnOk X.prog X.w X.K X.mg X.base CX k f fd ps sp) (hr : Room k X.A) (hb : KBn X.K fd ps n ks g gV) (hx : PassesAt CX X σ (E σ))
    (I : Inv X pins σ H s) (r : Vals vs us) (rz : Vals zs ws) (l1 : vs.length = n) (l2 : zs.length = ks.length) (h : sp (gV vs zs) H Q (E σ)) : wpAny (model X.prog X.w) X.A (call (.ref f) us (ks.zip ws)) (EP X pins σ Q) X.xe s := by
  have r2 := hb.rel r rz
  refine wpAny_call (codeAny_mono (F.run X.A X.stack s H ⟨us, ks.zip ws⟩ (g us ws) (gV vs zs) Q (E σ) hr I.env0 (hb.to s us ws I.kIn (r.length.symm.trans l1) (rz.length.symm.trans l2)) r2 h) fun r s' hq => ?_)
  cases r with
  | error e => exact hx pins H s e s' I hq
  | ok fl =>
    cases fl with
    | ret u => exact I.after hq
    | next => exact False.elim hq
    | brk => exact False.elim hq
    | cont => exact False.elim hq
theorem pe_callNS (F : FnOk X.prog X.w X.K X.mg X.base CX k f fd ps sp) (hr : Room k X.A) (hg : Gl X x) (hm : X.mg x = some (.ref f)) (hk : PySem.W.keepIn X.K (.ref f) = true) (hb : KBn X.K fd ps n ks g gV) (hx : ∀ σ, PassesAt CX X σ (E σ))
    (ha : PA X (e :: es) t) (hkw : PK X kws tk) (hall : (backToKw pos (keywordEach kws X.env)).all (·.1.isSome) = true := by rfl) (hks : (backToKw pos (keywordEach kws X.env)).filterMap (·.1) = ks := by rfl)
    (hdb : (x == ("__debug__" : Str)) = false := by decide) (he : starEach (e :: es) X.env = (false, eval e X.env) :: starEach es X.env := by rfl)
    (hpl : ((backTo pos (starEach (e :: es) X.env)).any (·.1) || (backToKw pos (keywordEach kws X.env)).any (·.1.isNone)) = false := by rfl) :
    PE X (.Call (.Name x p) (e :: es) kws pos) (tCallNS n ks.length sp gV E t tk) := by
  refine ⟨fun pins s σ H Q I h => ?_⟩
  refine wpAny_Call_Name_kw (ld_glob I hg hm ?_ hdb)
  refine PySem.W.callWith_KW (h₀ := X.base) I.ok.mod.kin hk hall (thn (ha.run pos pins s σ H _ I h) fun us s1 ⟨vs, H1, I1, r, q⟩ => ?_) hpl he
  refine thn (hkw.run pos pins s1 σ H1 _ I1 q) fun ws s2 ⟨zs, H2, I2, rz, l1, l2, q2⟩ => ⟨I2.kIn, ?_⟩
  rw [hks]
  exact run_fnNS F hr hb (hx σ) I2 r rz l1 l2 q2
end
abbrev CQ (f : FrC) (X : Cx) (W : WX) (c : Nat) (kws : List Keyword) (m : MA) : Prop := PK X kws (RA f W c m)
theorem PK.imp {X : Cx} {e : List Keyword} {t t' : TA} (h : PK X e t) (k : ∀ σ H Q, t' σ H Q → t σ H Q) : PK X e t' := ⟨fun pos pins s σ H Q I q => h.run pos pins s σ H Q I (k σ H Q q)⟩
def mCallK (m : MF) (n nk : Nat) (is : List Nat) (df : List D) (mas mks : MA) : ME := fun ρ Q W => mas ρ (fun ds => mks ρ (fun es => ds.length = n ∧ es.length = nk ∧ m (pickL is (ds ++ (df ++ es))) Q W) W) W
@[simp] theorem mCallK_eq (m : MF) (n nk : Nat) (is : List Nat) (df : List D) (mas mks : MA) (ρ : Rho) (Q : DK) (W : XKD) : mCallK m n nk is df mas mks ρ Q W = mas ρ (fun ds => mks ρ (fun es => ds.length = n ∧ es.length = nk ∧ m (pickL is (ds ++ (df ++ es))) Q W) W) W := Eq.trans rfl rfl
section
variable {f : FrC} {X : Cx} {W : WX} {ca cb cc ct ce : Nat} {a b c : Expr} {es : List Expr} {kws : List Keyword} {ma mb mc me : ME} {mt : MT} {mas mks : MA} {pos : Pos} {scope : Scope} {own : List (Str × Nat)} {tg elt : Expr} {ifs : List Expr} {t : TG} {g : MG} {is : List Nat}
variable {B : Addr → Prop} {σ : L2.St} {H : Hp} {ρ : Rho} {n k : Nat} {Dl : Addr} {Q0 : List D → Prop}
theorem cq_nil : CQ f X W 0 [] mNil := PK.imp pk_nil fun σ H Q h => by
  obtain ⟨B, n, ρ, Q0, W0, R, hm, hq, hw⟩ := h
  exact hq [] [] H hm (Kp.refl H) R.ok.src .nil
theorem cq_cons {nm : Option Str} {kpos : Pos} (ha : CE f X W ca a ma) (hr : CQ f X W cb kws mas) : CQ f X W (ca + cb) (⟨nm, a, kpos⟩ :: kws) (mCons ma mas) :=
  PK.imp (pk_cons ha hr) fun σ H Q h => by
    obtain ⟨B, n, ρ, Q0, W0, R, hm, hq, hw⟩ := h
    refine rd_i (m := n + cb) (R.mono (by omega)) hm (fun x v H1 h1 e1 R1 r1 => ?_) (fun x cls dd H' q e s er => hw x cls dd H' q e (s.mono (by omega)) er)
    exact ra_i (m := n) R1 h1 (fun y v2 H2 h2 e2 R2 r2 => hq _ _ H2 h2 (e1.trans e2) R2.ok.src (.cons (r1.kp R1.ok e2) r2)) (fun x cls dd H' q e s er => hw x cls dd H' q (e1.trans e) s er)
/-- f(e, .., k = v, ..) -/
theorem ce_callK {k c : Nat} {fa : Addr} {fd : FuncData} {ps ks : List Str} {m : MF} {x : Str} {p : Pos} {ct : Str → Option Addr} {nn nk : Nat} {js : List Nat} {dv : List V} {df : List D} (F : FnD X.prog X.w X.K X.mg X.base ct k fa fd ps c m) (hct : f.g.ct = ct) (hK : f.g.K = X.K) (tk : Takes X W) (hr : Room k X.A) (hg : Gl X x) (hm : X.mg x = some (.ref fa)) (hk : PySem.W.keepIn X.K (.ref fa) = true) (hb : KbT X.K fd ps nn ks js dv)
    (hdf : ∀ (g : Gc) (B : Addr → Prop) (H : Hp), Reps g B H dv df) (ha : CA f X W ca (a :: es) mas) (hkw : CQ f X W cb kws mks) (hnk : ks.length = nk := by rfl) (hall : (backToKw pos (keywordEach kws X.env)).all (·.1.isSome) = true := by rfl) (hks : (backToKw pos (keywordEach kws X.env)).filterMap (·.1) = ks := by rfl)
    (hdb : (x == ("__debug__" : Str)) = false := by decide) (he : starEach (a :: es) X.env = (false, eval a X.env) :: starEach es X.env := by rfl)
    (hpl : ((backTo pos (starEach (a :: es) X.env)).any (·.1) || (backToKw pos (keywordEach kws X.env)).any (·.1.isNone)) = false := by rfl) :
    CE f X W (ca + (cb + c)) (.Call (.Name x p) (a :: es) kws pos) (mCallK m nn nk js df mas mks) := by
  subst hnk
  obtain ⟨mv, hb⟩ := hb
  refine PE.imp (pe_callNS F hr hg hm hk hb (fun σ => passAt tk σ) ha hkw hall hks hdb he hpl) fun σ H Q h => ?_
  obtain ⟨B, n, ρ, Q0, W0, R, hm, hq, hw⟩ := h
  refine ra_i (m := n + (cb + c)) (R.mono (by omega)) hm (fun ds vs H1 h1 e1 R1 r1 => ?_) (fun x cls dd H' q e s er => hw x cls dd H' q e (s.mono (by omega)) er)
  refine ra_i (m := n + c) (R1.mono (by omega)) h1 (fun es zs H2 h2 e2 R2 r2 => ?_) (fun x cls dd H' q e s er => hw x cls dd H' q (e1.trans e) (s.mono (by omega)) er)
  obtain ⟨l1, l2, h3⟩ := h2
  have r3 := ((r1.kp R1.ok e2).append ((hdf f.g B H2).append r2)).pick js
  refine ⟨by rw [r1.length]; exact l1, by rw [r2.length]; exact l2, ?_⟩
  obtain ⟨g, B0, H0⟩ := f
  obtain ⟨K, ct, src⟩ := g
  cases hK
  cases hct
  exact ⟨src, B, n, _, Q0, W0, fun a ha => R2.ok.inB ha, R2.ok.dom, R2.ok.src, r3, h3, fun d v H' q e s r => hq d v H' q ((e1.trans e2).trans e) s r, fun x cls dd H' q e s er => hw x cls dd H' q ((e1.trans e2).trans e) s er⟩
theorem ce_join {apos cpos : Pos} (ho : CE f X W ca a ma) (he : CE f X W cb b mb) (hs : starEach [b] X.env = [(false, eval b X.env)] := by rfl) (hbase : attributeBase a "join" X.env (eval a X.env) = eval a X.env := by rfl) (hline : (apos.endLine == cpos.line) = true := by rfl) :
    CE f X W (ca + cb) (.Call (.Attribute a "join" apos) [b] [] cpos) (mJoin ma mb) :=
  PE.imp (pe_join ho he hs hbase hline) fun σ H Q h => by
    obtain ⟨B, n, ρ, Q0, W0, R, hm, hq, hw⟩ := h
    refine rd_i (m := n + cb) (R.mono (by omega)) hm (fun x v H1 h1 e1 R1 r1 => ?_) fun x cls dd H' q e s er => hw x cls dd H' q e (s.mono (by omega)) er
    cases r1 with
    | str z =>
      refine ⟨⟨z, rfl⟩, ?_⟩
      refine rd_i (m := n) R1 h1 (fun y u H2 h2 e2 R2 r2 => ?_) fun x cls dd H' q e s er => hw x cls dd H' q (e1.trans e) s er
      cases r2 with
      | lst hp nb rs =>
        obtain ⟨ys, rfl, h3, h4⟩ := h2
        have ev := reps_strs rs
        subst ev
        exact ⟨z, _, ys, rfl, rfl, .inl (.inl (.inl hp)), h3, hq _ _ H2 h4 (e1.trans e2) R2.ok.src (.str _)⟩
      | _ => exact h2.elim
    | _ => exact h1.elim
/-! comprehensions over a step range -/
theorem rngC_length {lo c : Int} {n : Nat} : (rngC lo c n).length = n := by unfold rngC; rw [List.length_map, List.length_range]
theorem rngC_drop {lo c : Int} {n i : Nat} (h : i < n) : (rngC lo c n).drop i = .int (lo + (i : Nat) * c) :: (rngC lo c n).drop (i + 1) := by
  have hl : i < (rngC lo c n).length := by rw [rngC_length]; exact h
  rw [List.drop_eq_getElem_cons hl]
  congr 1
  simp [rngC]
theorem lc_rangeC {lo c : Int} {n : Nat} {g : TG} {tt : TT} {te : TE} {vs : List Nat} {σ : L2.St} {H1 : Hp} {D : Addr} {Qd : Hp → Prop} (Pv : Nat → Hp → Prop) (h0 : Pv 0 (L2.upd H1 D (.lst [])))
    (hs : ∀ i H, i < n → Pv i H → g (.int (lo + (i : Nat) * c)) (L2.wipe σ vs) H fun σ2 H2 => L2.wipe σ2 vs = L2.wipe σ vs ∧ tt σ2 H2 fun b H3 =>
      if b = true then te σ2 H3 fun y H4 => ∃ acc, H4 D = some (.lst acc) ∧ acc.length < sizeLine ∧ Pv (i + 1) (L2.upd H4 D (.lst (acc ++ [y]))) else Pv (i + 1) H3) (hd : ∀ H, Pv n H → Qd H) :
    ∃ W : Nat → Nat → Hp → Prop, (∃ m, W 0 m (L2.upd H1 D (.lst []))) ∧ ∀ i m H, W i m H →
      ((Itc lo c n).stop i H ∧ Qd H) ∨ ((Itc lo c n).go i H ∧ ∃ Nx : Hp → Prop, (∀ H', Nx H' → ∃ m', m' < m ∧ W (i + 1) m' H') ∧ ∀ x H', (Itc lo c n).yld i H x H' → g x (L2.wipe σ vs) H' fun σ2 H2 => L2.wipe σ2 vs = L2.wipe σ vs ∧ tt σ2 H2 fun b H3 =>
        if b = true then te σ2 H3 fun y H4 => ∃ acc, H4 D = some (.lst acc) ∧ acc.length < sizeLine ∧ Nx (L2.upd H4 D (.lst (acc ++ [y]))) else Nx H3) := by
  refine ⟨fun i m H => m = n - i ∧ i ≤ n ∧ Pv i H, ⟨n, by simp, Nat.zero_le _, h0⟩, ?_⟩
  rintro i m H ⟨rfl, hi, p⟩
  by_cases hlt : i < n
  · refine .inr ⟨hlt, Pv (i + 1), fun H' p' => ⟨n - (i + 1), by omega, rfl, hlt, p'⟩, fun x H' y => ?_⟩
    obtain ⟨e, y⟩ := y
    subst e y
    exact hs i _ hlt p
  · have e : i = n := by omega
    subst e
    exact .inl ⟨Nat.le_refl _, hd H p⟩
theorem rd_lcR3 {v : Int} {Q : VK} (P : LcP f X scope own tg ifs elt ct ce t is g mt me) (h0 : ct + ce = 0) (hv : ∀ σ H Q, RD f W 0 (mC (.int v)) σ H Q → RD f W 0 mc σ H Q) (h : RL f W (ca + cb) (mLcR3 ma mb v g mt me (own.map (·.2))) σ H Q) : tLc (iRng3 (tCons (RD f W ca ma) (tCons (RD f W cb mb) (tCons (RD f W 0 (mC (.int v))) tNil)))) t (RT f W0F ct mt) (RD f W0F ce me) (own.map (·.2)) σ H Q := by
  obtain ⟨B, n, ρ, Q0, W0, R, hm, hq, hw⟩ := h
  refine rd_i (m := n + cb) (R.mono (by omega)) hm (fun d v' H1 h1 e1 R1 r1 => ?_) (fun x cls dd H' q e s er => hw x cls dd H' q e (s.mono (by omega)) er)
  refine rd_i (m := n) R1 h1 (fun d2 v2 H2 h2 e2 R2 r2 => ?_) (fun x cls dd H' q e s er => hw x cls dd H' q (e1.trans e) s er)
  refine ⟨B, n, ρ, fun d => d = .int v, fun _ => False, R2, rfl, fun d u H3 ed e3 s3 r3 => ?_, fun x cls dd H' q e s er => q.elim⟩
  subst ed
  cases r3
  have R3 : Rel f B σ H3 ρ n := R2.kp e3 s3
  have e4 := (e1.trans e2).trans e3
  cases r1 with
  | int i =>
    cases r2 with
    | int j =>
      obtain ⟨len, hr, h3⟩ := h2
      refine ⟨i, j, v, len, rfl, hr, fun Dl hD => ?_⟩
      have R' := R3.wipe (own.map (·.2))
      refine lc_rangeC (lo := i) (c := v) (n := len) (Qd := fun H => Q (.ref Dl) H) (fun i' H' => ∃ acc, LcS f B (L2.wipe σ (own.map (·.2))) (wipeD ρ (own.map (·.2))) Dl H3 H' n acc ∧ mLcL g mt me (wipeD ρ (own.map (·.2))) ((rngC i v len).drop i') acc Q0)
        ⟨[], LcS.start R' hD, h3⟩ (fun i' H' hi' hP => ?_) (fun H' hP => ?_)
      · obtain ⟨acc, S, hf⟩ := hP
        rw [rngC_drop hi'] at hf
        refine lc_turn (k := n) P.hd P.hi ⟨S.R.mono (by omega), S.h0, S.no, S.li, S.kp, S.fr⟩ (.int _) hf fun acc' H2 q S' _ => ⟨acc', S', q⟩
      · obtain ⟨acc, S, hf⟩ := hP
        have e0 : (rngC i v len).drop len = [] := List.drop_of_length_le (by rw [rngC_length]; exact Nat.le_refl _)
        rw [e0] at hf
        exact lc_end S hf e4 R3.ok (Nat.le_refl _) hq
    | _ => exact h2.elim
  | _ => exact h2.elim
theorem li_range3 {v : Int} {p cpos : Pos} (P : LcP f X scope own tg ifs elt ct ce t is g mt me) (h0 : ct + ce = 0) (hgl : Gl X "range") (hmg : X.mg "range" = none) (hi : CE f X W ca a ma) (hj : CE f X W cb b mb) (hv : CE f X W 0 c (mC (.int v)))
    (hs : starEach [a, b, c] X.env = (false, eval a X.env) :: starEach [b, c] X.env := by rfl) (hs2 : starEach [b, c] X.env = (false, eval b X.env) :: starEach [c] X.env := by rfl) (hs3 : starEach [c] X.env = (false, eval c X.env) :: starEach [] X.env := by rfl) (hpl : (backTo cpos (starEach [b, c] X.env)).any (·.1) = false := by rfl) :
    LcI f X W tg (.Call (.Name "range" p) [a, b, c] [] cpos) ct ce t g mt me own (ca + cb) (mLcR3 ma mb v g mt me (own.map (·.2))) := ⟨_, pi_range3 hgl hmg (pa_cons hi (pa_cons hj (pa_cons hv pa_nil hs3) hs2) hs) hs hpl, fun _ _ _ h => rd_lcR3 (mc := mC (.int v)) P h0 (fun _ _ _ z => z) h⟩
end
/-! a, b = a list -/
def gLs (is : List Nat) : MG := fun d ρ Q => asL d fun ds => ds.length = is.length ∧ Q (setAll ρ is ds)
@[simp] theorem gLs_eq (is : List Nat) (d : D) (ρ : Rho) (Q : Rho → Prop) : gLs is d ρ Q = (asL d fun ds => ds.length = is.length ∧ Q (setAll ρ is ds)) := Eq.trans rfl rfl
theorem tg_lst {f : FrC} {X : Cx} {is : List Nat} {t : TGs} {k : Nat} (hK : f.g.K = X.K) (hk : is.length = k) (ht : tgs f t is) : TgD f is (gLst X.K k t) (gLs is) := fun B σ H ρ n v d Q0 Q R r h q => by
  cases r with
  | lst h1 h2 h3 => exact ⟨_, _, rfl, .inl (.inl h1), by rw [h3.length, h.1, hk], ht B σ H ρ n _ _ Q0 Q R h3 h.1 h.2 q⟩
  | _ => exact h.elim
/-- a def with keyword-only parameters -/
structure DfK (K : PySem.W.Frag) (mg : Str → Option Value) (x : Str) (st : Stmt) (ps : List Str) (fa : Addr) (fd : FuncData) : Prop where
  F : Fun K x x st fa fd
  g : mg x = some (.ref fa)
/-- how many turns -/
theorem size_pos {i j c : Int} (hc : 1 ≤ c) : Builtin.Range.rangeSize i j c = if i < j then (j - i - 1) / c + 1 else 0 := by
  unfold Builtin.Range.rangeSize
  rw [if_pos (show c > 0 by omega)]
theorem rgC_pos {i j c : Int} (hc : 1 ≤ c) (hc2 : c ≤ 1000) (hi : 0 ≤ i) (hi2 : i ≤ 2 ^ 40) (hj : 0 ≤ j) (hj2 : j ≤ 2 ^ 40) : RgC i j c (if i < j then (j - i - 1) / c + 1 else 0).toNat := by
  have q : i < j → 0 ≤ (j - i - 1) / c ∧ (j - i - 1) / c ≤ j - i - 1 := fun h => ⟨Int.ediv_nonneg (by omega) (by omega), Int.ediv_le_self _ (by omega)⟩
  refine ⟨by omega, by omega, ?_, ?_⟩
  · unfold Builtin.Range.small
    rw [size_pos hc]
    generalize (j - i - 1) / c = z at q
    simp only [Builtin.Range.rangeFitsLong, Bool.and_eq_true, Bool.or_eq_true, decide_eq_true_eq, beq_iff_eq, show c > 0 by omega, if_true]
    split
    · rename_i h; have := q h; omega
    · omega
  · rw [size_pos hc]
    generalize (j - i - 1) / c = z at q
    split
    · rename_i h; have := q h; omega
    · omega
end Hm
set_option Elab.async false
set_option linter.all false
set_option maxRecDepth 100000
set_option maxHeartbeats 2000000
namespace Hm
open PySem L2

/-! ### data that == takes; what it answers -/
mutual
def D.lay : D → Bool
  | .non => true
  | .bl _ => true
  | .int _ => true
  | .str s => PyData.strOk s
  | .tup xs => lays xs
  | .lst xs => lays xs
  | _ => false
def lays : List D → Bool
  | [] => true
  | x :: r => x.lay && lays r
end
mutual
def D.dep : D → Nat
  | .tup xs => deps xs + 1
  | .lst xs => deps xs + 1
  | _ => 0
def deps : List D → Nat
  | [] => 0
  | x :: r => max x.dep (deps r)
end
mutual
theorem D.lay_eq : ∀ d : D, (d.pure && d.py.canLay0) = d.lay
  | .non => rfl
  | .bl _ => rfl
  | .int _ => rfl
  | .str _ => rfl
  | .tup xs => lays_eq xs
  | .lst xs => lays_eq xs
  | .dct _ => rfl
  | .exc _ _ => rfl
  | .src => rfl
  | .obj _ _ => rfl
theorem lays_eq : ∀ xs : List D, (pures xs && PyData.canLayAll0 (pys xs)) = lays xs
  | [] => rfl
  | x :: r => by
    show ((x.pure && pures r) && (x.py.canLay0 && PyData.canLayAll0 (pys r))) = (x.lay && lays r)
    rw [← D.lay_eq x, ← lays_eq r]
    cases x.pure <;> cases pures r <;> cases x.py.canLay0 <;> rfl
end
mutual
theorem D.dep_eq : ∀ d : D, d.pure = true → d.py.depth = d.dep
  | .non, _ => rfl
  | .bl _, _ => rfl
  | .int _, _ => rfl
  | .str _, _ => rfl
  | .tup xs, h => congrArg (· + 1) (deps_eq xs h)
  | .lst xs, h => congrArg (· + 1) (deps_eq xs h)
  | .dct _, h => Bool.noConfusion h
  | .exc _ _, h => Bool.noConfusion h
  | .src, h => Bool.noConfusion h
  | .obj _ _, h => Bool.noConfusion h
theorem deps_eq : ∀ xs : List D, pures xs = true → PyData.depthAll (pys xs) = deps xs
  | [], _ => rfl
  | x :: r, h => by
    have h' := Bool.and_eq_true_iff.mp (show (x.pure && pures r) = true from h)
    show max x.py.depth (PyData.depthAll (pys r)) = max x.dep (deps r)
    rw [D.dep_eq x h'.1, deps_eq r h'.2]
end
theorem okE_eq (d : D) : d.okE = (d.lay && decide (d.dep ≤ 64)) := by
  unfold D.okE SeqAt.shaped
  rw [← D.lay_eq d]
  cases h : d.pure with
  | false => rfl
  | true => rw [D.dep_eq d h]; simp
@[simp] theorem lay_non : D.lay .non = true := Eq.trans rfl rfl
@[simp] theorem lay_bl {b : Bool} : D.lay (.bl b) = true := Eq.trans rfl rfl
@[simp] theorem lay_int {b : Int} : D.lay (.int b) = true := Eq.trans rfl rfl
@[simp] theorem lay_str {b : Str} : D.lay (.str b) = PyData.strOk b := Eq.trans rfl rfl
@[simp] theorem lay_tup {xs : List D} : D.lay (.tup xs) = lays xs := Eq.trans rfl rfl
@[simp] theorem lay_lst {xs : List D} : D.lay (.lst xs) = lays xs := Eq.trans rfl rfl
@[simp] theorem lays_nil : lays [] = true := Eq.trans rfl rfl
@[simp] theorem lays_cons {x : D} {xs : List D} : lays (x :: xs) = (x.lay && lays xs) := Eq.trans rfl rfl
@[simp] theorem dep_non : D.dep .non = 0 := Eq.trans rfl rfl
@[simp] theorem dep_bl {b : Bool} : D.dep (.bl b) = 0 := Eq.trans rfl rfl
@[simp] theorem dep_int {b : Int} : D.dep (.int b) = 0 := Eq.trans rfl rfl
@[simp] theorem dep_str {b : Str} : D.dep (.str b) = 0 := Eq.trans rfl rfl
@[simp] theorem dep_tup {xs : List D} : D.dep (.tup xs) = deps xs + 1 := Eq.trans rfl rfl
@[simp] theorem dep_lst {xs : List D} : D.dep (.lst xs) = deps xs + 1 := Eq.trans rfl rfl
@[simp] theorem deps_nil : deps [] = 0 := Eq.trans rfl rfl
@[simp] theorem deps_cons {x : D} {xs : List D} : deps (x :: xs) = max x.dep (deps xs) := Eq.trans rfl rfl
theorem lays_iff {xs : List D} : lays xs = true ↔ ∀ x ∈ xs, x.lay = true := by
  induction xs with
  | nil => simp
  | cons x r ih => simp [ih]
theorem deps_le {xs : List D} {n : Nat} : deps xs ≤ n ↔ ∀ x ∈ xs, x.dep ≤ n := by
  induction xs with
  | nil => simp
  | cons x r ih => simp [ih, Nat.max_le]
@[simp] theorem lays_ints {ns : List Int} : lays (ns.map D.int) = true := by rw [lays_iff]; simp
@[simp] theorem deps_ints {ns : List Int} : deps (ns.map D.int) = 0 := by
  have : deps (ns.map D.int) ≤ 0 := by rw [deps_le]; simp
  omega
@[simp] theorem lays_bls {ns : List Bool} : lays (ns.map D.bl) = true := by
  rw [lays_iff]
  intro x hx
  obtain ⟨b, _, rfl⟩ := List.mem_map.mp hx
  rfl
@[simp] theorem deps_bls {ns : List Bool} : deps (ns.map D.bl) = 0 := by
  have : deps (ns.map D.bl) ≤ 0 := by
    rw [deps_le]
    intro x hx
    obtain ⟨b, _, rfl⟩ := List.mem_map.mp hx
    exact Nat.le_refl _
  omega
@[simp] theorem deps_strs {ns : List Str} : deps (ns.map D.str) = 0 := by
  have : deps (ns.map D.str) ≤ 0 := by rw [deps_le]; simp
  omega
theorem lays_append {a b : List D} : lays (a ++ b) = (lays a && lays b) := by
  induction a with
  | nil => simp
  | cons x r ih => simp [ih, Bool.and_assoc]
def eqvs (xs ys : List D) : Bool := PyData.eqvAll (pys xs) (pys ys)
@[simp] theorem eqv_non_non : D.eqv .non .non = true := Eq.trans rfl rfl
@[simp] theorem eqv_ii {a b : Int} : D.eqv (.int a) (.int b) = decide (a = b) := by show (a == b) = _; rw [Bool.eq_iff_iff]; simp
@[simp] theorem eqv_bb {a b : Bool} : D.eqv (.bl a) (.bl b) = decide (a = b) := by show (a == b) = _; rw [Bool.eq_iff_iff]; simp
@[simp] theorem eqv_ss {a b : Str} : D.eqv (.str a) (.str b) = decide (a = b) := by show (a == b) = _; rw [Bool.eq_iff_iff]; simp
@[simp] theorem eqv_tt {a b : List D} : D.eqv (.tup a) (.tup b) = eqvs a b := Eq.trans rfl rfl
@[simp] theorem eqv_ll {a b : List D} : D.eqv (.lst a) (.lst b) = eqvs a b := Eq.trans rfl rfl
@[simp] theorem eqv_non_int {b : Int} : D.eqv .non (.int b) = false := Eq.trans rfl rfl
@[simp] theorem eqv_int_non {b : Int} : D.eqv (.int b) .non = false := Eq.trans rfl rfl
@[simp] theorem eqv_non_str {b : Str} : D.eqv .non (.str b) = false := Eq.trans rfl rfl
@[simp] theorem eqv_str_non {b : Str} : D.eqv (.str b) .non = false := Eq.trans rfl rfl
@[simp] theorem eqv_non_bl {b : Bool} : D.eqv .non (.bl b) = false := Eq.trans rfl rfl
@[simp] theorem eqv_bl_non {b : Bool} : D.eqv (.bl b) .non = false := Eq.trans rfl rfl
@[simp] theorem eqv_non_tup {b : List D} : D.eqv .non (.tup b) = false := Eq.trans rfl rfl
@[simp] theorem eqv_tup_non {b : List D} : D.eqv (.tup b) .non = false := Eq.trans rfl rfl
@[simp] theorem eqv_non_lst {b : List D} : D.eqv .non (.lst b) = false := Eq.trans rfl rfl
@[simp] theorem eqv_lst_non {b : List D} : D.eqv (.lst b) .non = false := Eq.trans rfl rfl
@[simp] theorem eqv_str_int {a : Str} {b : Int} : D.eqv (.str a) (.int b) = false := Eq.trans rfl rfl
@[simp] theorem eqv_int_str {a : Str} {b : Int} : D.eqv (.int b) (.str a) = false := Eq.trans rfl rfl
@[simp] theorem eqv_str_tup {a : Str} {b : List D} : D.eqv (.str a) (.tup b) = false := Eq.trans rfl rfl
@[simp] theorem eqv_tup_str {a : Str} {b : List D} : D.eqv (.tup b) (.str a) = false := Eq.trans rfl rfl
@[simp] theorem eqv_int_tup {a : Int} {b : List D} : D.eqv (.int a) (.tup b) = false := Eq.trans rfl rfl
@[simp] theorem eqv_tup_int {a : Int} {b : List D} : D.eqv (.tup b) (.int a) = false := Eq.trans rfl rfl
@[simp] theorem eqv_str_lst {a : Str} {b : List D} : D.eqv (.str a) (.lst b) = false := Eq.trans rfl rfl
@[simp] theorem eqv_lst_str {a : Str} {b : List D} : D.eqv (.lst b) (.str a) = false := Eq.trans rfl rfl
@[simp] theorem eqvs_nil : eqvs [] [] = true := Eq.trans rfl rfl
@[simp] theorem eqvs_cons {x y : D} {xs ys : List D} : eqvs (x :: xs) (y :: ys) = (x.eqv y && eqvs xs ys) := Eq.trans rfl rfl
@[simp] theorem eqvs_nc {y : D} {ys : List D} : eqvs [] (y :: ys) = false := Eq.trans rfl rfl
@[simp] theorem eqvs_cn {x : D} {xs : List D} : eqvs (x :: xs) [] = false := Eq.trans rfl rfl
theorem eqvs_e {xs : List D} : eqvs xs [] = xs.isEmpty := by cases xs <;> simp
theorem eqvs_ints {a b : List Int} : eqvs (a.map D.int) (b.map D.int) = decide (a = b) := by
  induction a generalizing b with
  | nil => cases b <;> simp
  | cons x r ih =>
    cases b with
    | nil => simp
    | cons y t => rw [List.map_cons, List.map_cons, eqvs_cons, ih, eqv_ii, Bool.eq_iff_iff]; simp
theorem eqvs_strs {a b : List Str} : eqvs (a.map D.str) (b.map D.str) = decide (a = b) := by
  induction a generalizing b with
  | nil => cases b <;> simp
  | cons x r ih =>
    cases b with
    | nil => simp
    | cons y t => rw [List.map_cons, List.map_cons, eqvs_cons, ih, eqv_ss, Bool.eq_iff_iff]; simp
mutual
theorem D.eqv_refl : ∀ d : D, d.pure = true → D.eqv d d = true
  | .non, _ => rfl
  | .bl _, _ => by simp
  | .int _, _ => by simp
  | .str _, _ => by simp
  | .tup xs, h => by rw [eqv_tt]; exact eqvs_refl xs h
  | .lst xs, h => by rw [eqv_ll]; exact eqvs_refl xs h
  | .dct _, h => Bool.noConfusion h
  | .exc _ _, h => Bool.noConfusion h
  | .src, h => Bool.noConfusion h
  | .obj _ _, h => Bool.noConfusion h
theorem eqvs_refl : ∀ xs : List D, pures xs = true → eqvs xs xs = true
  | [], _ => rfl
  | x :: r, h => by
    have h' := Bool.and_eq_true_iff.mp (show (x.pure && pures r) = true from h)
    rw [eqvs_cons, D.eqv_refl x h'.1, eqvs_refl r h'.2]; rfl
end
theorem map_bl_inj : ∀ {a b : List Bool}, a.map D.bl = b.map D.bl → a = b
  | [], [], _ => rfl
  | [], _ :: _, h => by cases h
  | _ :: _, [], h => by cases h
  | x :: a, y :: b, h => by
    rw [List.map_cons, List.map_cons] at h
    injection h with h1 h2
    injection h1 with h1
    rw [h1, map_bl_inj h2]
theorem map_int_inj : ∀ {a b : List Int}, a.map D.int = b.map D.int → a = b
  | [], [], _ => rfl
  | [], _ :: _, h => by cases h
  | _ :: _, [], h => by cases h
  | x :: a, y :: b, h => by
    rw [List.map_cons, List.map_cons] at h
    injection h with h1 h2
    injection h1 with h1
    rw [h1, map_int_inj h2]
theorem map_str_inj : ∀ {a b : List Str}, a.map D.str = b.map D.str → a = b
  | [], [], _ => rfl
  | [], _ :: _, h => by cases h
  | _ :: _, [], h => by cases h
  | x :: a, y :: b, h => by
    rw [List.map_cons, List.map_cons] at h
    injection h with h1 h2
    injection h1 with h1
    rw [h1, map_str_inj h2]
theorem ex_bls {l : List Bool} {P : List Bool → Prop} : (∃ bs : List Bool, l.map D.bl = bs.map D.bl ∧ P bs) = P l :=
  propext ⟨fun ⟨bs, h1, h2⟩ => map_bl_inj h1 ▸ h2, fun h => ⟨l, rfl, h⟩⟩
theorem ex_ints {l : List Int} {P : List Int → Prop} : (∃ bs : List Int, l.map D.int = bs.map D.int ∧ P bs) = P l :=
  propext ⟨fun ⟨bs, h1, h2⟩ => map_int_inj h1 ▸ h2, fun h => ⟨l, rfl, h⟩⟩
/-- all of what a test says -/
theorem all_map {α : Type} {f : α → Bool} {l : List α} {Q : DK} : dAll [.lst (l.map fun x => .bl (f x))] Q = Q (.bl (l.all f)) := by
  have e : (l.map fun x => D.bl (f x)) = (l.map f).map D.bl := by rw [List.map_map]; rfl
  rw [e, dAll_eq, ex_bls, List.all_map]; rfl
theorem max_map {α : Type} {f : α → Int} {l : List α} {Q : DK} : dMaxL [.lst (l.map fun x => .int (f x))] Q = (0 < l.length ∧ ∀ m, m ∈ l.map f → (∀ y, y ∈ l.map f → y ≤ m) → Q (.int m)) := by
  have e : (l.map fun x => D.int (f x)) = (l.map f).map D.int := by rw [List.map_map]; rfl
  rw [e, dMaxL_eq, ex_ints, List.length_map]
theorem min_map {α : Type} {f : α → Int} {l : List α} {Q : DK} : dMinL [.lst (l.map fun x => .int (f x))] Q = (0 < l.length ∧ ∀ m, m ∈ l.map f → (∀ y, y ∈ l.map f → m ≤ y) → Q (.int m)) := by
  have e : (l.map fun x => D.int (f x)) = (l.map f).map D.int := by rw [List.map_map]; rfl
  rw [e, dMinL_eq, ex_ints, List.length_map]
/-- a comprehension with a test -/
theorem lcFilter {g : MG} {t : MT} {e : ME} {ρ : Rho} {xs : List D} {Q : List D → Prop} (p : D → Bool) (F : D → D) (hz : xs.length ≤ sizeLine) (hd : Q ((xs.filter p).map F))
    (hs : ∀ x ∈ xs, ∀ (kt : DK) (kf : Prop), (p x = true → kt (F x)) → (p x = false → kf) → g x ρ fun ρ' => t ρ' (fun b => if b = true then e ρ' kt (fun _ => False) else kf) (fun _ => False)) : mLcL g t e ρ xs [] Q := by
  refine lcI hz (fun i acc => acc = ((xs.take i).filter p).map F) rfl (fun acc h => ?_) (fun i acc h => ?_) (fun i x acc k hx h hl hk => ?_)
  · rw [h, List.take_length]; exact hd
  · rw [h, List.length_map]
    exact Nat.le_trans (List.length_filter_le _ _) (by rw [List.length_take]; omega)
  · have hm : x ∈ xs := List.mem_of_getElem? hx
    refine hs x hm _ _ (fun hp => ⟨hl, hk _ ?_⟩) (fun hp => hk _ ?_)
    · rw [h, List.take_add_one, hx]
      simp [hp]
    · rw [h, List.take_add_one, hx]
      simp [hp]
/-- .. as an equation -/
theorem lcFilterEq {g : MG} {t : MT} {e : ME} {ρ : Rho} (p : D → Bool) (F : D → D) : ∀ {xs acc : List D} {Q : List D → Prop},
    (∀ x ∈ xs, ∀ (kt : DK) (kf : Prop), (g x ρ fun ρ' => t ρ' (fun b => if b = true then e ρ' kt (fun _ => False) else kf) (fun _ => False)) = if p x = true then kt (F x) else kf) →
    acc.length + xs.length ≤ sizeLine → mLcL g t e ρ xs acc Q = Q (acc ++ (xs.filter p).map F)
  | [], acc, Q, _, _ => by
    show Q acc = _
    simp
  | x :: r, acc, Q, hs, hl => by
    show (g x ρ fun ρ' => t ρ' (fun b => if b = true then e ρ' (fun y => acc.length < sizeLine ∧ mLcL g t e ρ r (acc ++ [y]) Q) (fun _ => False) else mLcL g t e ρ r acc Q) (fun _ => False)) = _
    rw [hs x List.mem_cons_self]
    rw [List.length_cons] at hl
    cases h : p x with
    | true =>
      rw [if_pos rfl, lcFilterEq p F (fun y hy => hs y (List.mem_cons_of_mem _ hy)) (by rw [List.length_append, List.length_singleton]; omega)]
      have : (acc.length < sizeLine) = True := eq_true (by omega)
      rw [this, true_and]
      simp [h]
    | false =>
      rw [if_neg Bool.false_ne_true, lcFilterEq p F (fun y hy => hs y (List.mem_cons_of_mem _ hy)) (by omega)]
      simp [h]
theorem lcMapEq {g : MG} {e : ME} {ρ : Rho} (F : D → D) {xs : List D} {Q : List D → Prop}
    (hs : ∀ x ∈ xs, ∀ kt : DK, (g x ρ fun ρ' => e ρ' kt (fun _ => False)) = kt (F x)) (hl : xs.length ≤ sizeLine) : mLcL g mYes e ρ xs [] Q = Q (xs.map F) := by
  have h := lcFilterEq (g := g) (t := mYes) (e := e) (ρ := ρ) (fun _ => true) F (xs := xs) (acc := []) (Q := Q) (fun x hx kt kf => by
    rw [if_pos rfl]
    show (g x ρ fun ρ' => (if true = true then e ρ' kt (fun _ => False) else kf)) = _
    simp only [if_true]
    exact hs x hx kt) (by simpa using hl)
  rw [h, List.filter_eq_self.mpr (fun _ _ => rfl)]
  rfl
theorem filter_none {xs : List D} {p : D → Bool} (h : ∀ x ∈ xs, p x = false) : xs.filter p = [] := by
  rw [List.filter_eq_nil_iff]
  intro x hx; rw [h x hx]; exact Bool.false_ne_true
@[simp] theorem idxD_nil {y : D} : idxD [] y = none := Eq.trans rfl rfl
@[simp] theorem idxD_cons {z y : D} {r : List D} : idxD (z :: r) y = if D.eqF z y = true then some 0 else (idxD r y).map (· + 1) := by
  unfold idxD
  rw [List.findIdx?_cons]
theorem ix_lstN {xs : List D} {n : Nat} {Q : DK} : dIx (.lst xs) (.int (n : Int)) Q = (∃ d, xs[n]? = some d ∧ Q d) := ix_lst (xs := xs) (n := n) (Q := Q)
theorem ix_tupN {xs : List D} {n : Nat} {Q : DK} : dIx (.tup xs) (.int (n : Int)) Q = (∃ d, xs[n]? = some d ∧ Q d) := ix_lst (xs := xs) (n := n) (Q := Q)
@[simp] theorem ixl3 {a b c d : D} {r : List D} {Q : DK} : dIx (.lst (a :: b :: c :: d :: r)) (.int 3) Q = Q d := by have := ix_lst (xs := a :: b :: c :: d :: r) (n := 3) (Q := Q); simpa using this
@[simp] theorem ixt3 {a b c d : D} {r : List D} {Q : DK} : dIx (.tup (a :: b :: c :: d :: r)) (.int 3) Q = Q d := ixl3
@[simp] theorem ixl4 {a b c d e : D} {r : List D} {Q : DK} : dIx (.lst (a :: b :: c :: d :: e :: r)) (.int 4) Q = Q e := by have := ix_lst (xs := a :: b :: c :: d :: e :: r) (n := 4) (Q := Q); simpa using this
@[simp] theorem ixt4 {a b c d e : D} {r : List D} {Q : DK} : dIx (.tup (a :: b :: c :: d :: e :: r)) (.int 4) Q = Q e := ixl4
@[simp] theorem ixl5 {a b c d e f : D} {r : List D} {Q : DK} : dIx (.lst (a :: b :: c :: d :: e :: f :: r)) (.int 5) Q = Q f := by have := ix_lst (xs := a :: b :: c :: d :: e :: f :: r) (n := 5) (Q := Q); simpa using this
@[simp] theorem ixt5 {a b c d e f : D} {r : List D} {Q : DK} : dIx (.tup (a :: b :: c :: d :: e :: f :: r)) (.int 5) Q = Q f := ixl5
@[simp] theorem ixl6 {a b c d e f g : D} {r : List D} {Q : DK} : dIx (.lst (a :: b :: c :: d :: e :: f :: g :: r)) (.int 6) Q = Q g := by have := ix_lst (xs := a :: b :: c :: d :: e :: f :: g :: r) (n := 6) (Q := Q); simpa using this
@[simp] theorem ixt6 {a b c d e f g : D} {r : List D} {Q : DK} : dIx (.tup (a :: b :: c :: d :: e :: f :: g :: r)) (.int 6) Q = Q g := ixl6
@[simp] theorem ixl7 {a b c d e f g h : D} {r : List D} {Q : DK} : dIx (.lst (a :: b :: c :: d :: e :: f :: g :: h :: r)) (.int 7) Q = Q h := by have := ix_lst (xs := a :: b :: c :: d :: e :: f :: g :: h :: r) (n := 7) (Q := Q); simpa using this
@[simp] theorem ixt7 {a b c d e f g h : D} {r : List D} {Q : DK} : dIx (.tup (a :: b :: c :: d :: e :: f :: g :: h :: r)) (.int 7) Q = Q h := ixl7
@[simp] theorem ixl8 {a b c d e f g h i : D} {r : List D} {Q : DK} : dIx (.lst (a :: b :: c :: d :: e :: f :: g :: h :: i :: r)) (.int 8) Q = Q i := by have := ix_lst (xs := a :: b :: c :: d :: e :: f :: g :: h :: i :: r) (n := 8) (Q := Q); simpa using this
@[simp] theorem ixt8 {a b c d e f g h i : D} {r : List D} {Q : DK} : dIx (.tup (a :: b :: c :: d :: e :: f :: g :: h :: i :: r)) (.int 8) Q = Q i := ixl8
@[simp] theorem ixl9 {a b c d e f g h i j : D} {r : List D} {Q : DK} : dIx (.lst (a :: b :: c :: d :: e :: f :: g :: h :: i :: j :: r)) (.int 9) Q = Q j := by have := ix_lst (xs := a :: b :: c :: d :: e :: f :: g :: h :: i :: j :: r) (n := 9) (Q := Q); simpa using this
@[simp] theorem ixt9 {a b c d e f g h i j : D} {r : List D} {Q : DK} : dIx (.tup (a :: b :: c :: d :: e :: f :: g :: h :: i :: j :: r)) (.int 9) Q = Q j := ixl9
/-- each item by a contract -/
theorem lcDraw {g : MG} {e : ME} {ρ : Rho} {xs : List D} {Q : List D → Prop} (P : D → Prop) (hz : xs.length ≤ sizeLine) (hd : ∀ ys : List D, ys.length = xs.length → (∀ y ∈ ys, P y) → Q ys)
    (hs : ∀ x ∈ xs, ∀ k : DK, (∀ y, P y → k y) → g x ρ fun ρ' => e ρ' k (fun _ => False)) : mLcL g mYes e ρ xs [] Q := by
  refine lcI hz (fun i acc => acc.length = i ∧ ∀ y ∈ acc, P y) ⟨rfl, by simp⟩ (fun acc h => hd acc h.1 h.2) (fun i acc h => Nat.le_of_eq h.1) (fun i x acc k hx h hl hk => ?_)
  have hm : x ∈ xs := List.mem_of_getElem? hx
  show g x ρ fun ρ' => (if true = true then e ρ' (fun y => acc.length < sizeLine ∧ k (acc ++ [y])) (fun _ => False) else k acc)
  refine hs x hm _ fun y hy => ⟨hl, hk _ ⟨by rw [List.length_append, List.length_singleton, h.1], fun z hz => ?_⟩⟩
  rcases List.mem_append.mp hz with hz | hz
  · exact h.2 z hz
  · rw [List.mem_singleton] at hz; subst hz; exact hy
theorem exists_map {α : Type} {f : α → D} {P : α → Prop} : ∀ {ys : List D}, (∀ y ∈ ys, ∃ a, y = f a ∧ P a) → ∃ As : List α, ys = As.map f ∧ ∀ A ∈ As, P A
  | [], _ => ⟨[], rfl, by simp⟩
  | y :: r, h => by
    obtain ⟨a, rfl, pa⟩ := h y List.mem_cons_self
    obtain ⟨As, rfl, pr⟩ := exists_map fun z hz => h z (List.mem_cons_of_mem _ hz)
    refine ⟨a :: As, rfl, fun A hA => ?_⟩
    rcases List.mem_cons.mp hA with rfl | hA
    · exact pa
    · exact pr A hA
theorem ix_lastD {xs : List D} {Q : DK} (hne : xs ≠ []) : dIx (.lst xs) (.int (-1)) Q = Q (xs.getLast hne) := by
  apply propext
  show (∃ d, atI xs (-1) = some d ∧ Q d) ↔ _
  have hl : 0 < xs.length := List.length_pos_iff.mpr hne
  have e : atI xs (-1) = some (xs.getLast hne) := by
    unfold atI ixN
    rw [if_neg (by omega), if_pos (by omega)]
    show xs[(-1 + (xs.length : Int)).toNat]? = _
    rw [show (-1 + (xs.length : Int)).toNat = xs.length - 1 by omega, List.getLast_eq_getElem, List.getElem?_eq_getElem]
  rw [e]
  simp
theorem okE_ints {ns : List Int} : (D.lst (ns.map D.int)).okE = true := by simp [okE_eq]
theorem ne_ints {a b : List Int} {Q : DK} : dNe (.lst (a.map D.int)) (.lst (b.map D.int)) Q = Q (.bl (!decide (a = b))) := by
  simp [okE_ints, eqvs_ints]
theorem eq_ints {a b : List Int} {Q : DK} : dEq (.lst (a.map D.int)) (.lst (b.map D.int)) Q = Q (.bl (decide (a = b))) := by
  simp [okE_ints, eqvs_ints]
theorem pure_lay {d : D} (h : d.lay = true) : d.pure = true := by
  rw [← D.lay_eq d] at h
  exact (Bool.and_eq_true_iff.mp h).1
theorem ne_same {xs : List D} {Q : DK} (h : lays xs = true) (hd : deps xs ≤ 63) : dNe (.lst xs) (.lst xs) Q = Q (.bl false) := by
  have o : (D.lst xs).okE = true := by rw [okE_eq, lay_lst, h, dep_lst]; simp; omega
  have e : eqvs xs xs = true := eqvs_refl xs (by
    have := pure_lay (d := .lst xs) (by rw [lay_lst]; exact h)
    exact this)
  simp [o, e]
end Hm





set_option Elab.async false
set_option linter.all false
set_option maxRecDepth 100000
set_option maxHeartbeats 2000000
namespace PySem.W
open Lean Elab Tactic Meta PySem PySem.Calls PyProof.Rows
section
variable {prog : Program} {w : World} {A : Around} {E : Value → Shared → Prop} {s : Shared} {K : Frag} {x y C C2 L f f2 : Addr} {h₀ : Heap} {m : Str → Option Value} {ox ox2 : Obj} {od od2 : Option Obj}
/-- an operator between instances of two unlike classes of one's own, the left one's method taken -/
theorem hm_bin2 {op : Operator} {Q : Value → Shared → Prop} (X : K.In s.heap) (I : InstAt s.heap x ox C od) (I2 : InstAt s.heap y ox2 C2 od2) (hne : C ≠ C2) (hc : selfFirst K C = true) (hc2 : selfFirst K C2 = true)
    (hs : findIn K (.ref C) (PySem.dunder op.info.2) = some (some (.ref f))) (hf : isFn K (.ref f) = true) (hr : findIn K (.ref C) (dunderR op.info.2) = some none)
    (hs2 : findIn K (.ref C2) (PySem.dunder op.info.2) = some (some (.ref f2))) (hr2 : findIn K (.ref C2) (dunderR op.info.2) = some none) (hsub : subIn K (.ref C2) (.ref C) = some false)
    (h : wpAny (model prog w) A (call (.ref f) [.ref x, .ref y]) (CmpBack Q) E s) : wpAny (model prog w) A (binaryOp op (.ref x) (.ref y)) Q E s := by
  obtain ⟨cd, rest, hcd, hm⟩ := ksp_first hc
  obtain ⟨cd2, rest2, hcd2, hm2⟩ := ksp_first hc2
  rcases hi : op.info with ⟨sym, nm'⟩
  rw [hi] at hs hr hs2 hr2
  dsimp only at hs hr hs2 hr2
  have one := ksp_try X I hs hf h
  obtain ⟨hh, g, d, tt, os⟩ := s
  have L1 : Looks (model prog w) hh (typeOf (.ref x)) (.ref C) := I.type
  have L2 : Looks (model prog w) hh (typeOf (.ref y)) (.ref C2) := I2.type
  have L3 : Looks (model prog w) hh (fillsNumberSlot (.ref C) nm') true := fills_K X hcd hm hs
  have L4 : Looks (model prog w) hh (fillsNumberSlot (.ref C2) nm') true := fills_K X hcd2 hm2 hs2
  have L5 : Looks (model prog w) hh (isSubtype (.ref C2) (.ref C)) false := looks_subIn X hsub
  have L6 : Looks (model prog w) hh (numberSlotInPython (.ref C) nm') true := ksp_inPy X hs hr (.inl rfl)
  have L7 : Looks (model prog w) hh (numberSlotInPython (.ref C2) nm') true := ksp_inPy X hs2 hr2 (.inl rfl)
  have hne' : (Value.ref C == Value.ref C2) = false := Bool.eq_false_iff.mpr fun q => hne (by cases beq_iff_eq.mp q; rfl)
  simp only [binaryOp, hi]
  refine wpAny_holding (wpAny_bind ?_)
  unfold binaryOp1
  refine wpAny_bind (L1.at (wpAny_bind (L2.at (wpAny_bind (L3.at ?_)))))
  simp only [hne', Bool.false_eq_true, if_false]
  ksp_lk
  refine wpAny_mono one (fun r s' hr' => ?_) fun _ _ e => e
  obtain ⟨v, rfl, hq⟩ := hr'
  ksp_lk
  exact hq
end
end PySem.W
namespace Hm
open PySem L2 PySem.Spec PyProof.Rows
/-! ### instances of classes of one's own: operators at their special methods -/
def OpS (X : Cx) (f : Value → Value → Sem Value) (r : L2.St → R2) : Prop :=
  ∀ (pins : List (Addr × Obj)) (s : Shared) (σ : L2.St) (H : Hp) (x y : V) (v u : Value) (Q : VK), Inv X pins σ H s → RelV x v → RelV y u → r σ x y H Q → wpAny (model X.prog X.w) X.A (f v u) (EP X pins σ Q) X.xe s
def UnS (X : Cx) (f : Value → Sem Value) (r : L2.St → V → Hp → VK → Prop) : Prop :=
  ∀ (pins : List (Addr × Obj)) (s : Shared) (σ : L2.St) (H : Hp) (x : V) (v : Value) (Q : VK), Inv X pins σ H s → RelV x v → r σ x H Q → wpAny (model X.prog X.w) X.A (f v) (EP X pins σ Q) X.xe s
def tOpS (r : L2.St → R2) (ta tb : TE) : TE := fun σ H Q => ta σ H fun x H1 => tb σ H1 fun y H2 => r σ x y H2 Q
def tUnS (r : L2.St → V → Hp → VK → Prop) (ta : TE) : TE := fun σ H Q => ta σ H fun x H1 => r σ x H1 Q
/-- the object of a class cn at C, its method nm at fa -/
structure ObM (K : PySem.W.Frag) (cn nm : Str) (C fa : Addr) : Prop where
  ns : PySem.W.nsIn K mainGlobals cn = some (some (.ref C))
  at_ : PySem.W.findIn K (.ref C) nm = some (some (.ref fa))
  fn : PySem.W.isFn K (.ref fa) = true
  kp : PySem.W.keepIn K (.ref fa) = true
/-- the class itself -/
structure ObC (K : PySem.W.Frag) (cn : Str) (C : Addr) : Prop where
  ns : PySem.W.nsIn K mainGlobals cn = some (some (.ref C))
  cls : Cls K C
  sf : PySem.W.selfFirst K C = true
section
variable {X : Cx} {a b c : Expr} {es : List Expr} {ta tb : TE} {pos : Pos} {CX : CXT} {k : Nat} {fa fb C C2 dx ad : Addr} {fd : FuncData} {ps : List Str} {sp : Sp} {E : XK} {pins : List (Addr × Obj)} {σ : L2.St} {H : Hp} {s : Shared} {Q : VK} {us : List Value} {vs : List V} {cn nm : Str} {fs : List (Str × V)}
theorem pe_opS {op : Operator} {r : L2.St → R2} (ho : OpS X (binaryOp op) r) (ha : PE X a ta) (hb : PE X b tb) : PE X (.BinOp a op b pos) (tOpS r ta tb) :=
  ⟨fun pins s σ H Q I h => wpAny_BinOp (binT ha hb I h fun v u s2 x y H2 I2 rx ry q => ho pins s2 σ H2 x y v u Q I2 rx ry q)⟩
theorem pe_cmpS {op : CmpOp} {r : L2.St → R2} (ho : OpS X (compareOp op) r) (ha : PE X a ta) (hb : PE X b tb) (hm : behindInMarks op b = false) : PE X (.Compare a [op] [b] pos) (tOpS r ta tb) :=
  ⟨fun pins s σ H Q I h => wpAny_Compare1 (binT ha hb I h fun v u s2 x y H2 I2 rx ry q => ho pins s2 σ H2 x y v u Q I2 rx ry q) hm⟩
theorem pe_unS {op : UnaryOp} {r : L2.St → V → Hp → VK → Prop} (ho : UnS X (unaryOp op) r) (ha : PE X a ta) : PE X (.UnaryOp op a pos) (tUnS r ta) :=
  ⟨fun pins s σ H Q I h => UnaryOp_ (thn (ha.run pins s σ H _ I h) fun v s1 ⟨x, H1, I1, r1, q1⟩ => ho pins s1 σ H1 x v Q I1 r1 q1)⟩
/-- a def called from within the model, at any surroundings of this frame -/
theorem run_objC {A' : Around} (F : FnOk X.prog X.w X.K X.mg X.base CX k fa fd ps sp) (hr : Room k A') (e0 : Env0 X.prog X.w X.K X.mg X.base A' X.stack s H) (hb : Binds X.K fd ps []) (hx : PassesAt CX X σ E) (I : Inv X pins σ H s) (r : Vals vs us) (h : sp vs H Q E) :
    codeAny (model X.prog X.w) A' (.call (.ref fa) ⟨us, []⟩) (fun r s' => match r with | .ok (.ret v) => EP X pins σ Q v s' | .ok _ => False | .error e => X.xe e s') s := by
  have hl : us.length = ps.length := by rw [← r.length]; exact F.len _ _ _ _ h
  have bi := hb s us I.kIn (by rw [List.append_nil]; exact hl)
  rw [List.append_nil] at bi
  refine codeAny_mono (F.run A' X.stack s H ⟨us, []⟩ us vs Q E hr e0 bi r h) fun r s' hq => ?_
  cases r with
  | error e => exact hx pins H s e s' I hq
  | ok fl =>
    cases fl with
    | ret u => exact I.after hq
    | next => exact False.elim hq
    | brk => exact False.elim hq
    | cont => exact False.elim hq
theorem run_obj {A' : Around} (F : FnOk X.prog X.w X.K X.mg X.base CX k fa fd ps sp) (hr : Room k A') (e0 : Env0 X.prog X.w X.K X.mg X.base A' X.stack s H) (hb : Binds X.K fd ps []) (hx : PassesAt CX X σ E) (I : Inv X pins σ H s) (r : Vals vs us) (h : sp vs H Q E) :
    wpAny (model X.prog X.w) A' (call (.ref fa) us) (EP X pins σ Q) X.xe s := wpAny_call (run_objC F hr e0 hb hx I r h)
theorem ins_at (I : Inv X pins σ H s) (h : H ad = some (.ins C dx fs)) : ∃ od, PySem.W.InstAt s.heap ad (PySem.W.instObj C dx) C (some od) := by
  obtain ⟨mA, O, _⟩ := ins_get I.hok h
  obtain ⟨od, J, _⟩ := O.look
  exact ⟨od, J⟩
theorem back_of {u : Value} {s' : Shared} (h : EP X pins σ Q u s') : PySem.W.CmpBack (EP X pins σ Q) u s' := by
  cases u with
  | notImplemented =>
    obtain ⟨v, H', _, r, _⟩ := h
    cases v <;> first | (obtain ⟨_, e⟩ := r; cases e) | cases r
  | _ => exact h
/-- -x -/
def rUnO (X : Cx) (C : Addr) (sp : Sp) (E : L2.St → XK) : L2.St → V → Hp → VK → Prop := fun σ x H Q => ∃ ad dx fs, x = .ref ad ∧ H ad = some (.ins C dx fs) ∧ sp [x] H Q (E σ)
def rBiO (X : Cx) (C : Addr) (sp : Sp) (E : L2.St → XK) : L2.St → R2 := fun σ x y H Q => ∃ ad dx fs, x = .ref ad ∧ H ad = some (.ins C dx fs) ∧ sp [x, y] H Q (E σ)
def rBiOO (X : Cx) (C C2 : Addr) (sp : Sp) (E : L2.St → XK) : L2.St → R2 := fun σ x y H Q => ∃ ad dx fs bd dy gs, x = .ref ad ∧ H ad = some (.ins C dx fs) ∧ y = .ref bd ∧ H bd = some (.ins C2 dy gs) ∧ sp [x, y] H Q (E σ)
variable {Es : L2.St → XK}
theorem un_negO (M : ObM X.K cn "__neg__" C fa) (F : FnOk X.prog X.w X.K X.mg X.base CX k fa fd ps sp) (hr : Room k X.A) (hb : Binds X.K fd ps []) (hx : ∀ σ, PassesAt CX X σ (Es σ)) : UnS X (unaryOp .USub) (rUnO X C sp Es) := by
  intro pins s σ H x v Q I rx h
  obtain ⟨ad, dx, fs, rfl, ha, q⟩ := h
  cases rx
  obtain ⟨od, J⟩ := ins_at I ha
  obtain ⟨m, hF⟩ := I.fr
  exact PySem.W.ksp_neg hF I.ok.mod.kin J M.at_ M.fn (run_obj (us := [.ref ad]) (vs := [.ref ad]) F hr I.env0 hb (hx σ) I (.cons rfl .nil) q)
theorem op_same {op : Operator} (Z : ObC X.K cn C) (hat : PySem.W.findIn X.K (.ref C) (PySem.dunder op.info.2) = some (some (.ref fa))) (hfn : PySem.W.isFn X.K (.ref fa) = true) (F : FnOk X.prog X.w X.K X.mg X.base CX k fa fd ps sp) (hr : Room k X.A) (hb : Binds X.K fd ps []) (hx : ∀ σ, PassesAt CX X σ (Es σ)) :
    OpS X (binaryOp op) (rBiOO X C C sp Es) := by
  intro pins s σ H x y v u Q I rx ry h
  obtain ⟨ad, dx, fs, bd, dy, gs, rfl, ha, rfl, hbd, q⟩ := h
  cases rx
  cases ry
  obtain ⟨od, J⟩ := ins_at I ha
  obtain ⟨od2, J2⟩ := ins_at I hbd
  obtain ⟨m, hF⟩ := I.fr
  exact PySem.W.binop_K hF I.ok.mod.kin J J2.type Z.sf hat hfn (wpAny_mono (run_obj (us := [.ref ad, .ref bd]) (vs := [.ref ad, .ref bd]) F hr I.env0 hb (hx σ) I (.cons rfl (.cons rfl .nil)) q) (fun r s' z => back_of z) fun _ _ e => e)
theorem op_two {op : Operator} (Z : ObC X.K cn C) {cn2 : Str} (Z2 : ObC X.K cn2 C2) (hne : C ≠ C2) (hat : PySem.W.findIn X.K (.ref C) (PySem.dunder op.info.2) = some (some (.ref fa))) (hfn : PySem.W.isFn X.K (.ref fa) = true)
    (hr1 : PySem.W.findIn X.K (.ref C) (dunderR op.info.2) = some none) (hat2 : PySem.W.findIn X.K (.ref C2) (PySem.dunder op.info.2) = some (some (.ref fb))) (hr2 : PySem.W.findIn X.K (.ref C2) (dunderR op.info.2) = some none)
    (hsub : PySem.W.subIn X.K (.ref C2) (.ref C) = some false) (F : FnOk X.prog X.w X.K X.mg X.base CX k fa fd ps sp) (hr : Room k X.A) (hb : Binds X.K fd ps []) (hx : ∀ σ, PassesAt CX X σ (Es σ)) :
    OpS X (binaryOp op) (rBiOO X C C2 sp Es) := by
  intro pins s σ H x y v u Q I rx ry h
  obtain ⟨ad, dx, fs, bd, dy, gs, rfl, ha, rfl, hbd, q⟩ := h
  cases rx
  cases ry
  obtain ⟨od, J⟩ := ins_at I ha
  obtain ⟨od2, J2⟩ := ins_at I hbd
  exact PySem.W.hm_bin2 I.kIn J J2 hne Z.sf Z2.sf hat hfn hr1 hat2 hr2 hsub (wpAny_mono (run_obj (us := [.ref ad, .ref bd]) (vs := [.ref ad, .ref bd]) F hr I.env0 hb (hx σ) I (.cons rfl (.cons rfl .nil)) q) (fun r s' z => back_of z) fun _ _ e => e)
/-- x[y] -/
def tSubO (X : Cx) (C : Addr) (sp : Sp) (E : L2.St → XK) (ta tb : TE) : TE := tOpS (rBiO X C sp E) ta tb
theorem pe_subO (M : ObM X.K cn "__getitem__" C fa) (hfi : PySem.W.fnIn X.K fa = true) (F : FnOk X.prog X.w X.K X.mg X.base CX k fa fd ps sp) (hr : Room (k + 1) X.A) (hb : Binds X.K fd ps []) (hx : ∀ σ, PassesAt CX X σ (Es σ)) (ha : PE X a ta) (hbb : PE X b tb)
    (hsl : ∀ (x i : Value), subscripted b true x i = runValue (.builtin "lifetime.subscript" ⟨[x, i], []⟩) := by intro _ _; with_unfolding_all rfl) : PE X (.Subscript a b pos) (tSubO X C sp Es ta tb) := by
  refine ⟨fun pins s σ H Q I h => Subscript_ (thn (ha.run pins s σ H _ I h) fun v s1 ⟨x, H1, I1, r1, q1⟩ => thn (hbb.run pins s1 σ H1 _ I1 q1) fun u s2 ⟨y, H2, I2, r2, q2⟩ => ?_)⟩
  obtain ⟨ad, dx, fs, rfl, hi, q⟩ := q2
  cases r1
  obtain ⟨od, J⟩ := ins_at I2 hi
  obtain ⟨m, hF⟩ := I2.fr
  exact PySem.W.sub_K hF I2.ok.mod.kin J M.at_ hfi M.fn (run_obj (us := [.ref ad, u]) (vs := [.ref ad, y]) F hr.in1 I2.env0.in1 hb (hx σ) I2 (.cons rfl (.cons r2 .nil)) q) (hsl _ _)
/-- y in x -/
def rInO (X : Cx) (C : Addr) (sp : Sp) (E : L2.St → XK) : L2.St → R2 := fun σ y x H Q => ∃ ad dx fs, x = .ref ad ∧ H ad = some (.ins C dx fs) ∧ sp [x, y] H (fun r H' => ∃ k, r = .bl k ∧ Q (.bl k) H') (E σ)
theorem op_inO (M : ObM X.K cn "__contains__" C fa) (F : FnOk X.prog X.w X.K X.mg X.base CX k fa fd ps sp) (hr : Room k X.A) (hb : Binds X.K fd ps []) (hx : ∀ σ, PassesAt CX X σ (Es σ)) : OpS X (compareOp .In) (rInO X C sp Es) := by
  intro pins s σ H y x v u Q I ry rx h
  obtain ⟨ad, dx, fs, rfl, ha, q⟩ := h
  cases rx
  obtain ⟨od, J⟩ := ins_at I ha
  obtain ⟨m, hF⟩ := I.fr
  refine PySem.W.in_K hF I.ok.mod.kin J M.at_ M.fn (wpAny_mono (run_obj (us := [.ref ad, v]) (vs := [.ref ad, y]) F hr I.env0 hb (hx σ) I (.cons rfl (.cons ry .nil)) q) (fun r s' z => ?_) fun _ _ e => e)
  obtain ⟨v', H', I', rv, kk, rfl, qq⟩ := z
  cases rv
  exact wpAny_truthy_bool ⟨.bl kk, H', I', rfl, qq⟩
/-- x == y, y of any kind that is tracked -/
def rEqO (X : Cx) (C : Addr) (sp : Sp) (E : L2.St → XK) : L2.St → R2 := fun σ x y H Q => ∃ ad dx fs t, x = .ref ad ∧ H ad = some (.ins C dx fs) ∧ TyX X.K H y t ∧ PySem.W.notFirst X.K C t = true ∧ sp [x, y] H Q (E σ)
theorem op_eqO (M : ObM X.K cn "__eq__" C fa) (F : FnOk X.prog X.w X.K X.mg X.base CX k fa fd ps sp) (hr : Room k X.A) (hb : Binds X.K fd ps []) (hx : ∀ σ, PassesAt CX X σ (Es σ)) : OpS X (compareOp .Eq) (rEqO X C sp Es) := by
  intro pins s σ H x y v u Q I rx ry h
  obtain ⟨ad, dx, fs, t, rfl, ha, ty, nf, q⟩ := h
  cases rx
  obtain ⟨od, J⟩ := ins_at I ha
  obtain ⟨m, hF⟩ := I.fr
  obtain ⟨P, kx, hP, _⟩ := kit_of I ry ty
  show wpAny (model X.prog X.w) X.A (richCompare .Eq _ u) (EP X pins σ Q) X.xe s
  exact PySem.W.cmp_K (op := .Eq) hr.units0 hF I.ok.mod.kin J (kx.ty _ _ I.kIn hP) nf M.at_ M.fn (wpAny_mono (run_obj (us := [.ref ad, u]) (vs := [.ref ad, y]) F hr I.env0 hb (hx σ) I (.cons rfl (.cons ry .nil)) q) (fun r s' z => back_of z) fun _ _ e => e)
/-- x(y) -/
def tCallOS (X : Cx) (C : Addr) (sp : Sp) (E : L2.St → XK) (tf : TE) (t : TA) : TE := fun σ H Q => tf σ H fun y H1 => ∃ ad, y = V.ref ad ∧ t σ H1 fun vs H2 => (∃ dx fs, H2 ad = some (.ins C dx fs)) ∧ sp (V.ref ad :: vs) H2 Q (E σ)
theorem pe_callOS {fe e : Expr} {tf : TE} {t : TA} (hf : PE X fe tf) (M : ObM X.K cn "__call__" C fa) (hfi : PySem.W.fnIn X.K fa = true) (F : FnOk X.prog X.w X.K X.mg X.base CX k fa fd ps sp) (hr : Room k X.A) (hb : Binds X.K fd ps []) (hx : ∀ σ, PassesAt CX X σ (Es σ)) (ha : PA X (e :: es) t)
    (ht : eval (.Call fe (e :: es) [] pos) X.env = (do callWith pos (← eval fe X.env) [] (backTo pos (starEach (e :: es) X.env)) (backToKw pos (keywordEach [] X.env))) := by rfl)
    (he : starEach (e :: es) X.env = (false, eval e X.env) :: starEach es X.env := by rfl) (hpl : (backTo pos (starEach es X.env)).any (·.1) = false := by rfl) : PE X (.Call fe (e :: es) [] pos) (tCallOS X C sp Es tf t) := by
  refine ⟨fun pins s σ H Q I h => Call_ (thn (hf.run pins s σ H _ I h) fun u s1 ⟨y, H1, I1, ry, ad, ey, q⟩ => ?_) ht⟩
  subst ey
  cases ry
  refine StX.callO_with (thn (ha.run pos pins s1 σ H1 _ I1 q) fun us s2 ⟨vs, H2, I2, r, ⟨dx, fs, hi⟩, q2⟩ => ?_) he hpl
  obtain ⟨od, J⟩ := ins_at I2 hi
  exact ⟨⟨C, _, _, J, rfl⟩, wpAny_call (PySem.W.kco_code I2.kIn J rfl M.at_ M.fn hfi (run_objC (us := .ref ad :: us) (vs := .ref ad :: vs) F hr I2.env0 hb (hx σ) I2 (.cons rfl r) q2))⟩
end
end Hm
set_option Elab.async false
set_option linter.all false
set_option maxRecDepth 100000
set_option maxHeartbeats 2000000
namespace PySem.W
open Lean Elab Tactic Meta PySem PySem.Calls PyProof.Rows
section
variable {prog : Program} {w : World} {A : Around} {E : Value → Shared → Prop} {s : Shared} {K : Frag} {x C f : Addr} {ox : Obj} {od : Option Obj} {b tb : Value}
theorem hm_neSlot {Q : Fin → Shared → Prop} (X : K.In s.heap) (I : InstAt s.heap x ox C od) (hs : findIn K (.ref C) "__eq__" = some (some (.ref f))) (hf : isFn K (.ref f) = true) (hu : A.units < cLine)
    (h : wpAny (model prog w) A (call (.ref f) [.ref x, b]) (fun v s' => ∃ k, v = .bool k ∧ Q (.done (.ret (.bool (!k)))) s') E s) :
    wpAny (model prog w) A (Builtin.«object.__ne__» ⟨[.ref x, b], []⟩) Q E s := by
  unfold Builtin.«object.__ne__»
  obtain ⟨hh, g, d, t, os⟩ := s
  repeat (first
    | with_reducible refine wpAny_cRoomFor hu ?_
    | (refine wpAny_bind (m := callSpecialIfBound? (.ref x) (Str.ofString "__eq__") [b])
        (ifBound_K X I hs hf (wpAny_mono h (fun r s' hr => by
          obtain ⟨k, rfl, hq⟩ := hr
          repeat (first | exact hq | exact wpAny_pure hq | exact wpAny_truthy_bool hq | (refine wpAny_bind (m := truthy (.bool _)) (wpAny_truthy_bool ?_)) | wp_step)) fun _ _ e => e)))
    | wp_step)
theorem hm_neTry {FB : CmpFacts "object" [.type "object"]} {Q : Option Value → Shared → Prop} (X : K.In s.heap) (I : InstAt s.heap x ox C od) (hne : findIn K (.ref C) "__ne__" = some (some (.builtin "object.__ne__"))) (hm : mroIn K C (.type "object") = some true)
    (hs : findIn K (.ref C) "__eq__" = some (some (.ref f))) (hf : isFn K (.ref f) = true) (hu : A.units + 1 < cLine)
    (h : wpAny (model prog w) A.in1 (call (.ref f) [.ref x, b]) (fun v s' => ∃ k, v = .bool k ∧ Q (some (.bool (!k))) s') E s) :
    wpAny (model prog w) A (tryCompare (.ref x) "__ne__" b) Q E s := by
  have fin : wpAny (model prog w) A (call (.builtin "object.__ne__") ([.ref x] ++ [b])) (fun v s' => ∃ k, v = .bool k ∧ Q (some (.bool k)) s') E s := by
    refine wpAny_call (codeAny_call_builtin FB.ne.plain PySem.F.cmpEntry_ne (check_slot PySem.F.cmpKind_ne PySem.F.cmpSplit_ne (I.type.andThen (looks_mroIn X hm)) (PySem.F.cmpArgs_ne _ _)
      (hm_neSlot (A := A.in1) X I hs hf hu (wpAny_mono h (fun v s' hv => ?_) fun _ _ e => e))))
    obtain ⟨k, rfl, hq⟩ := hv
    exact ⟨k, rfl, !k, rfl, hq⟩
  simp only [tryCompare]
  refine wpAny_bind (m := callSpecialIfBound? (.ref x) "__ne__" [b]) ?_
  simp only [callSpecialIfBound?, bindSpecialIfBound?]
  have tail : wpAny (model prog w) A (call (.builtin "object.__ne__") ([.ref x] ++ [b]) >>= fun v => pure (some v)) (fun r s' => wpAny (model prog w) A (match r with | some .notImplemented => pure none | none => pure none | some v => pure (some v)) Q E s') E s :=
    wpAny_bind (wpAny_mono fin (fun v s' hv => by
      obtain ⟨k, rfl, hq⟩ := hv
      exact wpAny_pure (wpAny_pure hq)) fun _ _ e => e)
  refine wpAny_holding (wpAny_bind (wpAny_bind (wpAny_bind (I.type.here ((looks_findIn X hne).here ?_)))))
  refine wpAny_bind (wpAny_askSetting (wpAny_ite ?_))
  split
  · rw [FB.ne.bind]
    exact wpAny_bind (wpAny_pure (wpAny_pure (by exact tail)))
  · rw [FB.ne.bind]
    exact wpAny_tryCatch (wpAny_bind (wpAny_pure (wpAny_pure (by exact tail))))
theorem hm_ne {FB : CmpFacts "object" [.type "object"]} {h₀ : Heap} {L : Addr} {m : Str → Option Value} {Q : Value → Shared → Prop} (X : K.In s.heap) (I : InstAt s.heap x ox C od) (hb : Looks (model prog w) s.heap (typeOf b) tb) (hn : notFirst K C tb = true)
    (hne : findIn K (.ref C) "__ne__" = some (some (.builtin "object.__ne__"))) (hm : mroIn K C (.type "object") = some true) (hs : findIn K (.ref C) "__eq__" = some (some (.ref f))) (hf : isFn K (.ref f) = true) (hu : A.units + 1 < cLine)
    (h : wpAny (model prog w) A.in1 (call (.ref f) [.ref x, b]) (fun v s' => ∃ k, v = .bool k ∧ Q (.bool (!k)) s') E s) : wpAny (model prog w) A (richCompare .NotEq (.ref x) b) Q E s := by
  have one : wpAny (model prog w) A (tryCompare (.ref x) "__ne__" b) (fun r s' => ∃ k, r = some (.bool k) ∧ Q (.bool k) s') E s :=
    hm_neTry (FB := FB) X I hne hm hs hf hu (wpAny_mono h (fun v s' hv => by
      obtain ⟨k, rfl, hq⟩ := hv
      exact ⟨k, rfl, !k, rfl, hq⟩) fun _ _ e => e)
  unfold richCompare
  simp only [oneThing_ref, cmpInfo_NotEq]
  refine wpAny_holding (wpAny_bind (wpAny_cRoomFor (Nat.lt_of_succ_lt hu) ?_))
  refine wpAny_bind (I.type.here (wpAny_bind (hb.here ?_)))
  split
  · rename_i q
    have e : subIn K tb (.ref C) = some false := by
      rcases Bool.or_eq_true_iff.mp hn with e | e
      · rw [beq_iff_eq.mp e] at q; simp at q
      · exact beq_iff_eq.mp e
    refine wpAny_bind ((looks_subIn X e).here ?_)
    simp only [Bool.false_eq_true, if_false]
    refine wpAny_bind (wpAny_mono one (fun r s' z => ?_) fun _ _ e => e)
    obtain ⟨k, rfl, hq⟩ := z
    exact wpAny_pure hq
  · refine wpAny_bind (wpAny_pure ?_)
    simp only [Bool.false_eq_true, if_false]
    refine wpAny_bind (wpAny_mono one (fun r s' z => ?_) fun _ _ e => e)
    obtain ⟨k, rfl, hq⟩ := z
    exact wpAny_pure hq
end
end PySem.W
set_option Elab.async false
set_option linter.all false
set_option maxRecDepth 100000
set_option maxHeartbeats 2000000
namespace Hm
open PySem L2 PySem.Spec PyProof.Rows
/-! ### instances as data: the rules -/
section
variable {X : Cx} {a b : Expr} {ta tb : TE} {pos : Pos} {CX : CXT} {k : Nat} {fa C : Addr} {fd : FuncData} {ps : List Str} {sp : Sp} {cn : Str} {Es : L2.St → XK}
/-- x != y -/
def rNeO (X : Cx) (C : Addr) (sp : Sp) (E : L2.St → XK) : L2.St → R2 := fun σ x y H Q => ∃ ad dx fs t, x = .ref ad ∧ H ad = some (.ins C dx fs) ∧ TyX X.K H y t ∧ PySem.W.notFirst X.K C t = true ∧ sp [x, y] H (fun r H' => ∃ k, r = .bl k ∧ Q (.bl (!k)) H') (E σ)
theorem op_neO (M : ObM X.K cn "__eq__" C fa) (hne : PySem.W.findIn X.K (.ref C) "__ne__" = some (some (.builtin "object.__ne__"))) (hmr : PySem.W.mroIn X.K C (.type "object") = some true) (F : FnOk X.prog X.w X.K X.mg X.base CX k fa fd ps sp) (hr : Room (k + 1) X.A) (hb : Binds X.K fd ps [])
    (hx : ∀ σ, PassesAt CX X σ (Es σ)) : OpS X (compareOp .NotEq) (rNeO X C sp Es) := by
  intro pins s σ H x y v u Q I rx ry h
  obtain ⟨ad, dx, fs, t, rfl, ha, ty, nf, q⟩ := h
  cases rx
  obtain ⟨od, J⟩ := ins_at I ha
  obtain ⟨P, kx, hP, _⟩ := kit_of I ry ty
  show wpAny (model X.prog X.w) X.A (richCompare .NotEq _ u) (EP X pins σ Q) X.xe s
  refine PySem.W.hm_ne (FB := PySem.F.cmp_object) (h₀ := s.heap) (L := ad) (m := fun _ => none) I.kIn J (kx.ty _ _ I.kIn hP) nf hne hmr M.at_ M.fn (by have := hr.un; omega) (wpAny_mono (run_obj (us := [.ref ad, u]) (vs := [.ref ad, y]) F hr.in1 I.env0.in1 hb (hx σ) I (.cons rfl (.cons ry .nil)) q) (fun r s' z => ?_) fun _ _ e => e)
  obtain ⟨v', H', I', rv, kk, rfl, qq⟩ := z
  cases rv
  exact ⟨kk, rfl, .bl (!kk), H', I', rfl, qq⟩
theorem pt_cmpS {op : CmpOp} {r : L2.St → R2} (ho : OpS X (compareOp op) r) (ha : PE X a ta) (hb : PE X b tb) (hm : behindInMarks op b = false) : PT X (.Compare a [op] [b] pos) (tTest (tOpS r ta tb)) := by
  refine ⟨fun pins s σ H Q I h => ?_⟩
  refine wpAny_isTrue_Compare1 (thn (ha.run pins s σ H _ I h) fun v s1 ⟨x, H1, I1, r1, q1⟩ => thn (hb.run pins s1 σ H1 _ I1 q1) fun u s2 ⟨y, H2, I2, r2, q2⟩ =>
    thn (ho pins s2 σ H2 x y v u _ I2 r1 r2 q2) fun c s3 ⟨z, H3, I3, r3, k, e, q3⟩ => ?_) hm
  subst e
  cases r3
  exact wpAny_truthy_bool ⟨H3, I3, q3⟩
end
/-! what a datum is -/
def isO (cn : Str) : D → Prop
  | .obj c _ => c = cn
  | _ => False
def isOb (cn : Str) : D → Bool
  | .obj c _ => decide (c = cn)
  | _ => false
def tyO (cs : List Str) : D → Bool
  | .non => true
  | .bl _ => true
  | .int _ => true
  | .str _ => true
  | .tup _ => true
  | .lst _ => true
  | .dct _ => true
  | .obj c _ => decide (c ∈ cs)
  | _ => false
def fldD (f : Str) : List (Str × D) → DK → Prop
  | [], _ => False
  | (k, d) :: r, Q => if f = k then Q d else fldD f r Q
def dFld (cs : List Str) (f : Str) : D → DK → Prop
  | .obj c fs, Q => c ∈ cs ∧ fldD f fs Q
  | _, _ => False
def dIso (cs : List Str) (cn : Str) (x : D) (Q : DK) : Prop := tyO cs x = true ∧ Q (.bl (isOb cn x))
/-- what a class must be -/
structure ObT (K : PySem.W.Frag) (C : Addr) : Prop where
  ha : PySem.W.findIn K (.ref C) "__class__" = some (some (.builtin "object.__class__"))
  hn : PySem.W.specialIn K (.builtin "object.__class__") "__get__" = some (some (.builtin "getset_descriptor.__get__"))
  htk : PySem.W.takesIn K (.builtin "object.__class__") = some true
  hm : PySem.W.mroIn K C (.type "object") = some true
def OTab (K : PySem.W.Frag) (cs : List Str) : Prop := ∀ c ∈ cs, ∀ C, PySem.W.nsIn K mainGlobals c = some (some (.ref C)) → Cls K C ∧ ObT K C
structure OIs (K : PySem.W.Frag) (cs : List Str) (cn : Str) (Cn : Addr) : Prop where
  b : ∀ T ∈ isiA, PySem.W.kitOne K (.type T) (.ref Cn) = some false
  o : ∀ c ∈ cs, ∀ C, PySem.W.nsIn K mainGlobals c = some (some (.ref C)) → PySem.W.kitOne K (.ref C) (.ref Cn) = some (decide (c = cn))
structure OEq (K : PySem.W.Frag) (cs : List Str) (Cn : Addr) : Prop where
  b : ∀ T ∈ isiA, PySem.W.notFirst K Cn (.type T) = true
  o : ∀ c ∈ cs, ∀ C, PySem.W.nsIn K mainGlobals c = some (some (.ref C)) → PySem.W.notFirst K Cn (.ref C) = true
def OFl (K : PySem.W.Frag) (cs : List Str) (f : Str) : Prop := ∀ c ∈ cs, ∀ C, PySem.W.nsIn K mainGlobals c = some (some (.ref C)) → Cls K C ∧ NoAttr K C f
theorem kit_ne {K : PySem.W.Frag} {c C : Addr} (h : PySem.W.kitOne K (.ref c) (.ref C) = some false) : c ≠ C := fun e => by
  subst e
  unfold PySem.W.kitOne at h
  simp at h
theorem kit_sub {K : PySem.W.Frag} {c C : Addr} (h : PySem.W.kitOne K (.ref c) (.ref C) = some false) : PySem.W.subIn K (.ref c) (.ref C) = some false := by
  have hne := kit_ne h
  unfold PySem.W.kitOne at h
  rw [if_neg (by simpa using hne)] at h
  unfold PySem.W.kitCls at h
  dsimp only at h
  split at h
  · exact h
  · cases h
theorem nf_same {K : PySem.W.Frag} {C : Addr} : PySem.W.notFirst K C (.ref C) = true := by
  unfold PySem.W.notFirst
  simp
theorem nf_sub {K : PySem.W.Frag} {C : Addr} {t : Value} (h : PySem.W.subIn K t (.ref C) = some false) : PySem.W.notFirst K C t = true := by
  unfold PySem.W.notFirst
  rw [h]
  simp
theorem kitT_sub {K : PySem.W.Frag} {T : String} {C : Addr} (h : PySem.W.kitOne K (.type T) (.ref C) = some false) : PySem.W.subIn K (.type T) (.ref C) = some false := by
  unfold PySem.W.kitOne at h
  rw [if_neg (by simp)] at h
  unfold PySem.W.kitCls at h
  dsimp only at h
  split at h
  · exact h
  · cases h
/-- OEq follows -/
theorem oeq_of {K : PySem.W.Frag} {cs : List Str} {cn : Str} {Cn : Addr} (h : OIs K cs cn Cn) (ns : PySem.W.nsIn K mainGlobals cn = some (some (.ref Cn))) : OEq K cs Cn :=
  ⟨fun T hT => nf_sub (kitT_sub (h.b T hT)), fun c hc C e => by
    by_cases z : c = cn
    · subst z
      rw [ns] at e
      cases e
      exact nf_same
    · have q := h.o c hc C e
      rw [decide_eq_false z] at q
      exact nf_sub (kit_sub q)⟩
section
variable {g : Gc} {B : Addr → Prop} {H : Hp} {v : V} {d : D} {cs : List Str} {cn f : Str} {C Cn : Addr} {Q0 : DK}
theorem Rep.tyx (tab : OTab g.K cs) (r : Rep g B H v d) (h : tyO cs d = true) : ∃ t, TyX g.K H v t ∧ ((∃ T ∈ isiA, d.tyS = some T ∧ t = .type T ∧ ∀ c, isOb c d = false) ∨ ∃ c C fs, d = .obj c fs ∧ c ∈ cs ∧ PySem.W.nsIn g.K mainGlobals c = some (some (.ref C)) ∧ t = .ref C) := by
  cases d with
  | obj c fs =>
    have hc : c ∈ cs := of_decide_eq_true h
    cases r with
    | obj e h1 n1 r1 =>
      obtain ⟨cl, ot⟩ := tab c hc _ e
      exact ⟨_, .base (.ins h1 cl ot.ha ot.hn ot.htk ot.hm), .inr ⟨c, _, fs, rfl, hc, e, rfl⟩⟩
  | exc c fs => cases h
  | src => cases h
  | non => exact ⟨_, r.ty (a := "NoneType") rfl, .inl ⟨"NoneType", by decide, rfl, rfl, fun _ => rfl⟩⟩
  | bl _ => exact ⟨_, r.ty (a := "bool") rfl, .inl ⟨"bool", by decide, rfl, rfl, fun _ => rfl⟩⟩
  | int _ => exact ⟨_, r.ty (a := "int") rfl, .inl ⟨"int", by decide, rfl, rfl, fun _ => rfl⟩⟩
  | str _ => exact ⟨_, r.ty (a := "str") rfl, .inl ⟨"str", by decide, rfl, rfl, fun _ => rfl⟩⟩
  | tup _ => exact ⟨_, r.ty (a := "tuple") rfl, .inl ⟨"tuple", by decide, rfl, rfl, fun _ => rfl⟩⟩
  | lst _ => exact ⟨_, r.ty (a := "list") rfl, .inl ⟨"list", by decide, rfl, rfl, fun _ => rfl⟩⟩
  | dct _ => exact ⟨_, r.ty (a := "dict") rfl, .inl ⟨"dict", by decide, rfl, rfl, fun _ => rfl⟩⟩
theorem rep_ins (hn : PySem.W.nsIn g.K mainGlobals cn = some (some (.ref C))) (r : Rep g B H v d) (h : isO cn d) : ∃ ad dx fs, v = .ref ad ∧ H ad = some (.ins C dx fs) := by
  cases d with
  | obj c fs =>
    cases r with
    | obj e h1 n1 r1 =>
      have hc : c = cn := h
      subst hc
      rw [hn] at e
      cases e
      exact ⟨_, _, _, rfl, h1⟩
  | _ => exact h.elim
theorem fldD_get : ∀ {kvs : List (Str × V)} {ds : List (Str × D)}, RepsF g B H kvs ds → fldD f ds Q0 → ∃ v d, kvs.lookup f = some v ∧ Rep g B H v d ∧ Q0 d
  | _, _, .nil, h => h.elim
  | _, _, @RepsF.cons _ _ _ k v vs d ds r t, h => by
    unfold fldD at h
    by_cases e : f = k
    · rw [if_pos e] at h
      subst e
      exact ⟨v, d, by rw [List.lookup_cons, beq_self_eq_true], r, h⟩
    · rw [if_neg e] at h
      obtain ⟨v', d', h1, h2, h3⟩ := fldD_get t h
      exact ⟨v', d', by rw [List.lookup_cons, beq_eq_false_iff_ne.mpr e]; exact h1, h2, h3⟩
end
/-! readings over data -/
def mUnO (cn : Str) (fn : MF) (a : ME) : ME := fun ρ Q W => a ρ (fun x => isO cn x ∧ fn [x] Q W) W
def mBiOO (cn cn2 : Str) (fn : MF) (a b : ME) : ME := fun ρ Q W => a ρ (fun x => b ρ (fun y => isO cn x ∧ isO cn2 y ∧ fn [x, y] Q W) W) W
def mIxO (cn : Str) (fn : MF) (a b : ME) : ME := fun ρ Q W => a ρ (fun x => b ρ (fun y => isO cn x ∧ fn [x, y] Q W) W) W
def mInO (cn : Str) (fn : MF) (a b : ME) : ME := fun ρ Q W => a ρ (fun y => b ρ (fun x => isO cn x ∧ fn [x, y] (fun r => asB r fun k => Q (.bl k)) W) W) W
def mEqO (cs : List Str) (cn : Str) (fn : MF) (a b : ME) : ME := fun ρ Q W => a ρ (fun x => b ρ (fun y => isO cn x ∧ tyO cs y = true ∧ fn [x, y] Q W) W) W
def mNeO (cs : List Str) (cn : Str) (fn : MF) (a b : ME) : ME := fun ρ Q W => a ρ (fun x => b ρ (fun y => isO cn x ∧ tyO cs y = true ∧ fn [x, y] (fun r => asB r fun k => Q (.bl (!k))) W) W) W
def mCallO (cn : Str) (fn : MF) (a : ME) (as : MA) : ME := fun ρ Q W => a ρ (fun x => isO cn x ∧ as ρ (fun xs => fn (x :: xs) Q W) W) W
def mProp (cn : Str) (fn : MF) (a : ME) : ME := fun ρ Q W => a ρ (fun x => isO cn x ∧ fn [x] Q fun _ => False) W
def mInit (cn fl : Str) (chk e : ME) : MF := fun ds Q W => ds.length = 1 ∧ chk (.un :: ds.map Sl.dat) (fun _ => e (.un :: ds.map Sl.dat) (fun d => Q (.obj cn [(fl, d)])) W) W
section
variable {f : FrC} {X : Cx} {W : WX} {B : Addr → Prop} {σ : L2.St} {H : Hp} {ρ : Rho} {n c ca cb k : Nat} {a b : Expr} {es : List Expr} {ma mb : ME} {mas : MA} {pos : Pos} {m : MF} {ct : Str → Option Addr} {cs : List Str} {cn cn2 : Str} {C C2 fa : Addr} {fd : FuncData} {ps : List Str} {Q : VK} {E : XK} {Q0 : DK} {W0 : XKD}
theorem sp_of (hct : f.g.ct = ct) (hK : f.g.K = X.K) {vs : List V} {ds : List D} (R : Rel f B σ H ρ (n + c)) (r : Reps f.g B H vs ds) (h : m ds Q0 W0) (hq : ∀ d v H', Q0 d → Kp f.g H H' → SrcOk f.g H' n → Rep f.g B H' v d → Q v H')
    (hw : ∀ x cls dd H', W0 x → Kp f.g H H' → SrcOk f.g H' n → ErrAt f.g B H' cls dd x → E cls dd H') : spOf X.K ct c m vs H Q E := by
  obtain ⟨g, B0, H0⟩ := f
  obtain ⟨K, ct', src⟩ := g
  cases hK
  cases hct
  exact ⟨src, B, n, ds, Q0, W0, fun a ha => R.ok.inB ha, R.ok.dom, R.ok.src, r, h, hq, hw⟩
theorem ce_negO (M : ObM X.K cn "__neg__" C fa) (F : FnD X.prog X.w X.K X.mg X.base ct k fa fd ps c m) (hct : f.g.ct = ct) (hK : f.g.K = X.K) (tk : Takes X W) (hr : Room k X.A) (hb : Binds X.K fd ps []) (ha : CE f X W ca a ma) : CE f X W (ca + c) (.UnaryOp .USub a pos) (mUnO cn m ma) :=
  PE.imp (pe_unS (un_negO M F hr hb (fun σ => passAt tk σ)) ha) fun σ H Q h => by
    obtain ⟨B, n, ρ, Q0, W0, R, hm, hq, hw⟩ := h
    refine rd_i (m := n + c) (R.mono (by omega)) hm (fun x v H1 h1 e1 R1 r1 => ?_) (fun x cls dd H' q e s er => hw x cls dd H' q e (s.mono (by omega)) er)
    obtain ⟨ad, dx, fs, rfl, hi⟩ := rep_ins (hK ▸ M.ns) r1 h1.1
    exact ⟨ad, dx, fs, rfl, hi, sp_of hct hK R1 (.cons r1 .nil) h1.2 (fun d v H' q e s r => hq d v H' q (e1.trans e) s r) fun x cls dd H' q e s er => hw x cls dd H' q (e1.trans e) s er⟩
theorem ce_biOO {op : Operator} (ho : OpS X (binaryOp op) (rBiOO X C C2 (spOf X.K ct c m) (WE W))) (hn : PySem.W.nsIn X.K mainGlobals cn = some (some (.ref C))) (hn2 : PySem.W.nsIn X.K mainGlobals cn2 = some (some (.ref C2))) (hct : f.g.ct = ct) (hK : f.g.K = X.K) (ha : CE f X W ca a ma) (hb : CE f X W cb b mb) :
    CE f X W (ca + cb + c) (.BinOp a op b pos) (mBiOO cn cn2 m ma mb) :=
  PE.imp (pe_opS ho ha hb) fun σ H Q h => by
    obtain ⟨B, n, ρ, Q0, W0, R, hm, hq, hw⟩ := h
    refine rd_i (m := n + c + cb) (R.mono (by omega)) hm (fun x v H1 h1 e1 R1 r1 => ?_) (fun x cls dd H' q e s er => hw x cls dd H' q e (s.mono (by omega)) er)
    refine rd_i (m := n + c) R1 h1 (fun y u H2 h2 e2 R2 r2 => ?_) (fun x cls dd H' q e s er => hw x cls dd H' q (e1.trans e) (s.mono (by omega)) er)
    have r1' := r1.kp R1.ok e2
    obtain ⟨ad, dx, fs, rfl, hi⟩ := rep_ins (hK ▸ hn) r1' h2.1
    obtain ⟨bd, dy, gs, rfl, hj⟩ := rep_ins (hK ▸ hn2) r2 h2.2.1
    exact ⟨ad, dx, fs, bd, dy, gs, rfl, hi, rfl, hj, sp_of hct hK R2 (.cons r1' (.cons r2 .nil)) h2.2.2 (fun d v H' q e s r => hq d v H' q ((e1.trans e2).trans e) s r) fun x cls dd H' q e s er => hw x cls dd H' q ((e1.trans e2).trans e) s er⟩
theorem ce_subO (M : ObM X.K cn "__getitem__" C fa) (hfi : PySem.W.fnIn X.K fa = true) (F : FnD X.prog X.w X.K X.mg X.base ct k fa fd ps c m) (hct : f.g.ct = ct) (hK : f.g.K = X.K) (tk : Takes X W) (hr : Room (k + 1) X.A) (hbi : Binds X.K fd ps []) (ha : CE f X W ca a ma) (hb : CE f X W cb b mb)
    (hsl : ∀ (x i : Value), subscripted b true x i = runValue (.builtin "lifetime.subscript" ⟨[x, i], []⟩) := by intro _ _; with_unfolding_all rfl) : CE f X W (ca + cb + c) (.Subscript a b pos) (mIxO cn m ma mb) :=
  PE.imp (pe_subO M hfi F hr hbi (fun σ => passAt tk σ) ha hb hsl) fun σ H Q h => by
    obtain ⟨B, n, ρ, Q0, W0, R, hm, hq, hw⟩ := h
    refine rd_i (m := n + c + cb) (R.mono (by omega)) hm (fun x v H1 h1 e1 R1 r1 => ?_) (fun x cls dd H' q e s er => hw x cls dd H' q e (s.mono (by omega)) er)
    refine rd_i (m := n + c) R1 h1 (fun y u H2 h2 e2 R2 r2 => ?_) (fun x cls dd H' q e s er => hw x cls dd H' q (e1.trans e) (s.mono (by omega)) er)
    have r1' := r1.kp R1.ok e2
    obtain ⟨ad, dx, fs, rfl, hi⟩ := rep_ins (hK ▸ M.ns) r1' h2.1
    exact ⟨ad, dx, fs, rfl, hi, sp_of hct hK R2 (.cons r1' (.cons r2 .nil)) h2.2 (fun d v H' q e s r => hq d v H' q ((e1.trans e2).trans e) s r) fun x cls dd H' q e s er => hw x cls dd H' q ((e1.trans e2).trans e) s er⟩
theorem rd_inO (M : ObM X.K cn "__contains__" C fa) (hct : f.g.ct = ct) (hK : f.g.K = X.K) {σ : L2.St} {H : Hp} {Q : VK} (h : RD f W (ca + cb + c) (mInO cn m ma mb) σ H Q) : tOpS (rInO X C (spOf X.K ct c m) (WE W)) (RD f W ca ma) (RD f W cb mb) σ H Q := by
  obtain ⟨B, n, ρ, Q0, W0, R, hm, hq, hw⟩ := h
  refine rd_i (m := n + c + cb) (R.mono (by omega)) hm (fun x v H1 h1 e1 R1 r1 => ?_) (fun x cls dd H' q e s er => hw x cls dd H' q e (s.mono (by omega)) er)
  refine rd_i (m := n + c) R1 h1 (fun y u H2 h2 e2 R2 r2 => ?_) (fun x cls dd H' q e s er => hw x cls dd H' q (e1.trans e) (s.mono (by omega)) er)
  have r1' := r1.kp R1.ok e2
  obtain ⟨ad, dx, fs, rfl, hi⟩ := rep_ins (hK ▸ M.ns) r2 h2.1
  refine ⟨ad, dx, fs, rfl, hi, sp_of hct hK R2 (.cons r2 (.cons r1' .nil)) h2.2 (fun d v H' q e s r => ?_) fun x cls dd H' q e s er => hw x cls dd H' q ((e1.trans e2).trans e) s er⟩
  cases r with
  | bl kk => exact ⟨kk, rfl, hq _ _ H' q ((e1.trans e2).trans e) s (.bl kk)⟩
  | _ => exact q.elim
theorem ce_inO (M : ObM X.K cn "__contains__" C fa) (F : FnD X.prog X.w X.K X.mg X.base ct k fa fd ps c m) (hct : f.g.ct = ct) (hK : f.g.K = X.K) (tk : Takes X W) (hr : Room k X.A) (hbi : Binds X.K fd ps []) (ha : CE f X W ca a ma) (hb : CE f X W cb b mb)
    (hm : behindInMarks .In b = false := by first | exact nomark _ | with_unfolding_all rfl) : CE f X W (ca + cb + c) (.Compare a [.In] [b] pos) (mInO cn m ma mb) :=
  PE.imp (pe_cmpS (op_inO M F hr hbi (fun σ => passAt tk σ)) ha hb hm) fun σ H Q h => rd_inO M hct hK h
theorem ct_inO (M : ObM X.K cn "__contains__" C fa) (F : FnD X.prog X.w X.K X.mg X.base ct k fa fd ps c m) (hct : f.g.ct = ct) (hK : f.g.K = X.K) (tk : Takes X W) (hr : Room k X.A) (hbi : Binds X.K fd ps []) (ha : CE f X W ca a ma) (hb : CE f X W cb b mb)
    (hm : behindInMarks .In b = false := by first | exact nomark _ | with_unfolding_all rfl) : CT f X W (ca + cb + c) (.Compare a [.In] [b] pos) (mTest (mInO cn m ma mb)) :=
  PT.imp (pt_cmpS (op_inO M F hr hbi (fun σ => passAt tk σ)) ha hb hm) fun σ H Q h => rt_test (fun _ q => rd_inO M hct hK q) h
theorem rd_eqO (M : ObM X.K cn "__eq__" C fa) (tab : OTab X.K cs) (oe : OEq X.K cs C) (hct : f.g.ct = ct) (hK : f.g.K = X.K) {σ : L2.St} {H : Hp} {Q : VK} (h : RD f W (ca + cb + c) (mEqO cs cn m ma mb) σ H Q) : tOpS (rEqO X C (spOf X.K ct c m) (WE W)) (RD f W ca ma) (RD f W cb mb) σ H Q := by
  obtain ⟨B, n, ρ, Q0, W0, R, hm, hq, hw⟩ := h
  refine rd_i (m := n + c + cb) (R.mono (by omega)) hm (fun x v H1 h1 e1 R1 r1 => ?_) (fun x cls dd H' q e s er => hw x cls dd H' q e (s.mono (by omega)) er)
  refine rd_i (m := n + c) R1 h1 (fun y u H2 h2 e2 R2 r2 => ?_) (fun x cls dd H' q e s er => hw x cls dd H' q (e1.trans e) (s.mono (by omega)) er)
  have r1' := r1.kp R1.ok e2
  obtain ⟨ad, dx, fs, rfl, hi⟩ := rep_ins (hK ▸ M.ns) r1' h2.1
  obtain ⟨t, ty, z⟩ := Rep.tyx (hK ▸ tab) r2 h2.2.1
  refine ⟨ad, dx, fs, t, rfl, hi, hK ▸ ty, ?_, sp_of hct hK R2 (.cons r1' (.cons r2 .nil)) h2.2.2 (fun d v H' q e s r => hq d v H' q ((e1.trans e2).trans e) s r) fun x cls dd H' q e s er => hw x cls dd H' q ((e1.trans e2).trans e) s er⟩
  rcases z with ⟨T, hT, _, rfl, _⟩ | ⟨c', C', fs', _, hc, ns, rfl⟩
  · exact oe.b T hT
  · exact oe.o c' hc C' (hK ▸ ns)
theorem ce_eqO (M : ObM X.K cn "__eq__" C fa) (tab : OTab X.K cs) (oe : OEq X.K cs C) (F : FnD X.prog X.w X.K X.mg X.base ct k fa fd ps c m) (hct : f.g.ct = ct) (hK : f.g.K = X.K) (tk : Takes X W) (hr : Room k X.A) (hbi : Binds X.K fd ps []) (ha : CE f X W ca a ma) (hb : CE f X W cb b mb)
    (hm : behindInMarks .Eq b = false := by first | exact nomark _ | with_unfolding_all rfl) : CE f X W (ca + cb + c) (.Compare a [.Eq] [b] pos) (mEqO cs cn m ma mb) :=
  PE.imp (pe_cmpS (op_eqO M F hr hbi (fun σ => passAt tk σ)) ha hb hm) fun σ H Q h => rd_eqO M tab oe hct hK h
theorem ct_eqO (M : ObM X.K cn "__eq__" C fa) (tab : OTab X.K cs) (oe : OEq X.K cs C) (F : FnD X.prog X.w X.K X.mg X.base ct k fa fd ps c m) (hct : f.g.ct = ct) (hK : f.g.K = X.K) (tk : Takes X W) (hr : Room k X.A) (hbi : Binds X.K fd ps []) (ha : CE f X W ca a ma) (hb : CE f X W cb b mb)
    (hm : behindInMarks .Eq b = false := by first | exact nomark _ | with_unfolding_all rfl) : CT f X W (ca + cb + c) (.Compare a [.Eq] [b] pos) (mTest (mEqO cs cn m ma mb)) :=
  PT.imp (pt_cmpS (op_eqO M F hr hbi (fun σ => passAt tk σ)) ha hb hm) fun σ H Q h => rt_test (fun _ q => rd_eqO M tab oe hct hK q) h
theorem rd_neO (M : ObM X.K cn "__eq__" C fa) (tab : OTab X.K cs) (oe : OEq X.K cs C) (hct : f.g.ct = ct) (hK : f.g.K = X.K) {σ : L2.St} {H : Hp} {Q : VK} (h : RD f W (ca + cb + c) (mNeO cs cn m ma mb) σ H Q) : tOpS (rNeO X C (spOf X.K ct c m) (WE W)) (RD f W ca ma) (RD f W cb mb) σ H Q := by
  obtain ⟨B, n, ρ, Q0, W0, R, hm, hq, hw⟩ := h
  refine rd_i (m := n + c + cb) (R.mono (by omega)) hm (fun x v H1 h1 e1 R1 r1 => ?_) (fun x cls dd H' q e s er => hw x cls dd H' q e (s.mono (by omega)) er)
  refine rd_i (m := n + c) R1 h1 (fun y u H2 h2 e2 R2 r2 => ?_) (fun x cls dd H' q e s er => hw x cls dd H' q (e1.trans e) (s.mono (by omega)) er)
  have r1' := r1.kp R1.ok e2
  obtain ⟨ad, dx, fs, rfl, hi⟩ := rep_ins (hK ▸ M.ns) r1' h2.1
  obtain ⟨t, ty, z⟩ := Rep.tyx (hK ▸ tab) r2 h2.2.1
  refine ⟨ad, dx, fs, t, rfl, hi, hK ▸ ty, ?_, sp_of hct hK R2 (.cons r1' (.cons r2 .nil)) h2.2.2 (fun d v H' q e s r => ?_) fun x cls dd H' q e s er => hw x cls dd H' q ((e1.trans e2).trans e) s er⟩
  · rcases z with ⟨T, hT, _, rfl, _⟩ | ⟨c', C', fs', _, hc, ns, rfl⟩
    · exact oe.b T hT
    · exact oe.o c' hc C' (hK ▸ ns)
  · cases r with
    | bl kk => exact ⟨kk, rfl, hq _ _ H' q ((e1.trans e2).trans e) s (.bl _)⟩
    | _ => exact q.elim
theorem ce_neO (M : ObM X.K cn "__eq__" C fa) (hne : PySem.W.findIn X.K (.ref C) "__ne__" = some (some (.builtin "object.__ne__"))) (hmr : PySem.W.mroIn X.K C (.type "object") = some true) (tab : OTab X.K cs) (oe : OEq X.K cs C) (F : FnD X.prog X.w X.K X.mg X.base ct k fa fd ps c m) (hct : f.g.ct = ct) (hK : f.g.K = X.K) (tk : Takes X W) (hr : Room (k + 1) X.A) (hbi : Binds X.K fd ps []) (ha : CE f X W ca a ma) (hb : CE f X W cb b mb)
    (hm : behindInMarks .NotEq b = false := by first | exact nomark _ | with_unfolding_all rfl) : CE f X W (ca + cb + c) (.Compare a [.NotEq] [b] pos) (mNeO cs cn m ma mb) :=
  PE.imp (pe_cmpS (op_neO M hne hmr F hr hbi (fun σ => passAt tk σ)) ha hb hm) fun σ H Q h => rd_neO M tab oe hct hK h
theorem ct_neO (M : ObM X.K cn "__eq__" C fa) (hne : PySem.W.findIn X.K (.ref C) "__ne__" = some (some (.builtin "object.__ne__"))) (hmr : PySem.W.mroIn X.K C (.type "object") = some true) (tab : OTab X.K cs) (oe : OEq X.K cs C) (F : FnD X.prog X.w X.K X.mg X.base ct k fa fd ps c m) (hct : f.g.ct = ct) (hK : f.g.K = X.K) (tk : Takes X W) (hr : Room (k + 1) X.A) (hbi : Binds X.K fd ps []) (ha : CE f X W ca a ma) (hb : CE f X W cb b mb)
    (hm : behindInMarks .NotEq b = false := by first | exact nomark _ | with_unfolding_all rfl) : CT f X W (ca + cb + c) (.Compare a [.NotEq] [b] pos) (mTest (mNeO cs cn m ma mb)) :=
  PT.imp (pt_cmpS (op_neO M hne hmr F hr hbi (fun σ => passAt tk σ)) ha hb hm) fun σ H Q h => rt_test (fun _ q => rd_neO M tab oe hct hK q) h
/-- x(..) -/
theorem ce_callO {fe e : Expr} {mf : ME} {cf : Nat} (hf : CE f X W cf fe mf) (M : ObM X.K cn "__call__" C fa) (hfi : PySem.W.fnIn X.K fa = true) (F : FnD X.prog X.w X.K X.mg X.base ct k fa fd ps c m) (hct : f.g.ct = ct) (hK : f.g.K = X.K) (tk : Takes X W) (hr : Room k X.A) (hbi : Binds X.K fd ps []) (ha : CA f X W ca (e :: es) mas)
    (ht : eval (.Call fe (e :: es) [] pos) X.env = (do callWith pos (← eval fe X.env) [] (backTo pos (starEach (e :: es) X.env)) (backToKw pos (keywordEach [] X.env))) := by rfl)
    (he : starEach (e :: es) X.env = (false, eval e X.env) :: starEach es X.env := by rfl) (hpl : (backTo pos (starEach es X.env)).any (·.1) = false := by rfl) : CE f X W (cf + ca + c) (.Call fe (e :: es) [] pos) (mCallO cn m mf mas) :=
  PE.imp (pe_callOS hf M hfi F hr hbi (fun σ => passAt tk σ) ha ht he hpl) fun σ H Q h => by
    obtain ⟨B, n, ρ, Q0, W0, R, hm, hq, hw⟩ := h
    refine rd_i (m := n + c + ca) (R.mono (by omega)) hm (fun x v H1 h1 e1 R1 r1 => ?_) (fun x cls dd H' q e s er => hw x cls dd H' q e (s.mono (by omega)) er)
    obtain ⟨ad, dx, fs, rfl, hi⟩ := rep_ins (hK ▸ M.ns) r1 h1.1
    refine ⟨ad, rfl, ra_i (m := n + c) R1 h1.2 (fun ds vs H2 h2 e2 R2 r2 => ?_) fun x cls dd H' q e s er => hw x cls dd H' q (e1.trans e) (s.mono (by omega)) er⟩
    have r1' := r1.kp R1.ok e2
    obtain ⟨ad', dx', fs', z, hi'⟩ := rep_ins (hK ▸ M.ns) r1' h1.1
    cases z
    exact ⟨⟨dx', fs', hi'⟩, sp_of hct hK R2 (.cons r1' r2) h2 (fun d v H' q e s r => hq d v H' q ((e1.trans e2).trans e) s r) fun x cls dd H' q e s er => hw x cls dd H' q ((e1.trans e2).trans e) s er⟩
/-- x.f, a property -/
theorem cx_no {P : Program} {w : World} {X : Cx} (hp : X.prog = P) (hw : X.w = w) : Passes (L2.CX P w) X.nox (fun _ _ _ => False) := by
  subst hp hw
  intro pins σ H s e s' I h
  obtain ⟨_, _, _, _, _, _, _, _, _, _, _, _, z⟩ := h
  exact z.elim
theorem ce_prop {fl : Str} {p ga : Addr} (hn : PySem.W.nsIn X.K mainGlobals cn = some (some (.ref C))) (cl : Cls X.K C) (hp : PropOf X.K C fl p ga) (F : FnD X.prog X.w X.K X.mg X.base ct k ga fd ps c m) (hct : f.g.ct = ct) (hK : f.g.K = X.K) (hr : Room (k + 1) X.A) (hbi : Binds X.K fd ps []) (ha : CE f X W ca a ma)
    (hab : attributeBase a fl X.env (eval a X.env) = eval a X.env := by rfl) : CE f X W (ca + c) (.Attribute a fl pos) (mProp cn m ma) :=
  PE.imp (pe_prop (dvs := []) ha cl hp F hr hbi .nil (cx_no rfl rfl) hab) fun σ H Q h => by
    obtain ⟨B, n, ρ, Q0, W0, R, hm, hq, hw⟩ := h
    refine rd_i (m := n + c) (R.mono (by omega)) hm (fun x v H1 h1 e1 R1 r1 => ?_) (fun x cls dd H' q e s er => hw x cls dd H' q e (s.mono (by omega)) er)
    obtain ⟨ad, dx, fs, rfl, hi⟩ := rep_ins (hK ▸ hn) r1 h1.1
    exact ⟨ad, dx, fs, rfl, hi, sp_of hct hK R1 (.cons r1 .nil) h1.2 (fun d v H' q e s r => hq d v H' q (e1.trans e) s r) fun x cls dd H' q e s er => q.elim⟩
/-- x.f, a field -/
theorem ce_fld {fl : Str} (hfl : OFl X.K cs fl) (hK : f.g.K = X.K) (ha : CE f X W ca a ma) (hab : attributeBase a fl X.env (eval a X.env) = eval a X.env := by rfl) : CE f X W ca (.Attribute a fl pos) (mUn (dFld cs fl) ma) :=
  PE.imp (pe_fld ha hab) fun σ H Q h => by
    obtain ⟨B, n, ρ, Q0, W0, R, hm, hq, hw⟩ := h
    refine rd_i (m := n) R hm (fun x v H1 h1 e1 R1 r1 => ?_) hw
    cases r1 with
    | obj e hi nb rs =>
      obtain ⟨cl, na⟩ := hfl _ h1.1 _ (hK ▸ e)
      obtain ⟨v', d', l, r', q'⟩ := fldD_get rs h1.2
      exact ⟨_, _, _, _, _, rfl, hi, cl, na, l, hq _ _ H1 q' e1 R1.ok.src r'⟩
    | _ => exact h1.elim
/-- isinstance(x, C) -/
theorem ce_iso {x : Str} {p p2 : Pos} {Cn : Addr} (hK : f.g.K = X.K) (tab : OTab X.K cs) (oi : OIs X.K cs cn Cn) (hg : Gl X "isinstance") (hm : X.mg "isinstance" = none) (hg2 : Gl X x) (hm2 : X.mg x = some (.ref Cn)) (ha : CE f X W ca a ma)
    (hdb : (x == ("__debug__" : Str)) = false := by decide) (he : starEach [a, .Name x p2] X.env = (false, eval a X.env) :: starEach [.Name x p2] X.env := by rfl) (he2 : starEach [.Name x p2] X.env = (false, eval (.Name x p2) X.env) :: starEach [] X.env := by rfl)
    (hpl : (backTo pos (starEach [.Name x p2] X.env)).any (·.1) = false := by rfl) : CE f X W ca (.Call (.Name "isinstance" p) [a, .Name x p2] [] pos) (mUn (dIso cs cn) ma) :=
  PE.imp (pe_callB call_isi hg hm (by decide +kernel) (pa_cons ha (pa_cons (pe_glob hg2 hm2 (show RelV (.ref Cn) (.ref Cn) from rfl) hdb) pa_nil he2) he) (by decide) (by decide) he hpl) fun σ H Q h => by
    obtain ⟨B, n, ρ, Q0, W0, R, hm, hq, hw⟩ := h
    refine rd_i (m := n) R hm (fun x v H1 h1 e1 R1 r1 => ?_) hw
    obtain ⟨t, ty, z⟩ := Rep.tyx (hK ▸ tab) r1 h1.1
    refine ⟨_, _, t, _, isOb cn x, rfl, .own Cn, hK ▸ ty, ?_, hq _ _ H1 h1.2 e1 R1.ok.src (.bl _)⟩
    rcases z with ⟨T, hT, _, rfl, no⟩ | ⟨c', C', fs', rfl, hc, ns, rfl⟩
    · rw [no]
      exact oi.b T hT
    · exact oi.o c' hc C' (hK ▸ ns)
end
end Hm
set_option Elab.async false
set_option linter.all false
set_option maxRecDepth 100000
set_option maxHeartbeats 2000000
namespace Hm
open PySem L2 PySem.Spec PyProof.Rows
/-! ### instances made -/
/-- all that is tracked stands, but the source and x -/
def KpX (g : Gc) (x : Addr) (H H' : Hp) : Prop := ∀ a o, ¬ InS g a → a ≠ x → H a = some o → H' a = some o
/-- an __init__'s promise: x, new, gets its fields -/
def spMk (K : PySem.W.Frag) (ct : Str → Option Addr) (c : Nat) (C : Addr) (m : MF) : Sp := fun vs H Q E => ∃ (src : Option (Addr × Addr)) (B : Addr → Prop) (n : Nat) (x dx : Addr) (us : List V) (ds : List D) (Q0 : DK) (W0 : XKD),
  vs = .ref x :: us ∧ H x = some (.ins C dx []) ∧ ¬ B x ∧ (∀ a, InS ⟨K, ct, src⟩ a → B a) ∧ (∀ a, B a → H a ≠ none) ∧ SrcOk ⟨K, ct, src⟩ H (n + c) ∧ Reps ⟨K, ct, src⟩ (fun a => B a ∨ a = x) H us ds ∧ m ds Q0 W0 ∧
  (∀ d H', Q0 d → KpX ⟨K, ct, src⟩ x H H' → SrcOk ⟨K, ct, src⟩ H' n → Rep ⟨K, ct, src⟩ B H' (.ref x) d → Q .non H') ∧
  (∀ y cls dd H', W0 y → Kp ⟨K, ct, src⟩ H H' → SrcOk ⟨K, ct, src⟩ H' n → ErrAt ⟨K, ct, src⟩ B H' cls dd y → E cls dd H')
abbrev FnMk (P : Program) (w : World) (K : PySem.W.Frag) (mg : Str → Option Value) (base : Heap) (ct : Str → Option Addr) (k : Nat) (f : Addr) (fd : FuncData) (ps : List Str) (c : Nat) (C : Addr) (m : MF) : Prop := FnOk P w K mg base (L2.CX P w) k f fd ps (spMk K ct c C m)
section
variable {P : Program} {w : World} {K : PySem.W.Frag} {mg : Str → Option Value} {base : Heap} {ct : Str → Option Addr}
theorem Reps.free1 {g : Gc} {B B' : Addr → Prop} {H : Hp} {v : List V} {d : List D} (k : ∀ a, B' a → B a) (r : Reps g B H v d) : Reps g B' H v d := r.move fun a o h nb => ⟨h, fun z => nb (k a z)⟩
/-- def __init__(self, p): check(p); self.f = e -/
theorem fn_init {x qual : Str} {st : Stmt} {fa : Addr} {fd : FuncData} {N ps : List Str} {k c1 c2 : Nat} {chk me : ME} {cn fl : Str} {C : Addr} (F : Fun K x qual st fa fd) (S : FnScope N ps (defScope st)) (hN : N.length = 2) (hps : ps.length = 2)
    (ns : PySem.W.nsIn K mainGlobals cn = some (some (.ref C))) (cl : Cls K C) (na : NoAttr K C fl)
    (body : ∀ (cdv : Value) (A : Around) (outer : List Env) (s : Shared) (H : Hp) (E : XK) (f : FrC), f.g.K = K → f.g.ct = ct → (f.N = fun _ => False) → Room k (A.deeper (envOfC qual (defScope st) s.heap.objs.size fa cdv)) →
      PSs (cxOf (L2.CX P w) P w K mg base N qual (defScope st) fa cdv A outer s H E) (defBody st) (tSeq (tDrop (RD f (fun cls d _ H => E cls d H) c1 chk)) (sFld K (tVar 0) (RD f (fun cls d _ H => E cls d H) c2 me) fl))) :
    FnMk P w K mg base ct (k + 1) fa fd ps (c1 + c2) C (mInit cn fl chk me) := by
  refine F.okX S (fun vs H Q E h => ?_) (fun cdv A outer s H vs Q E hr h => ?_)
  · obtain ⟨src, B, n, x, dx, us, ds, Q0, W0, rfl, h1, h2, h3, h4, h5, h6, h7, _⟩ := h
    rw [List.length_cons, h6.length, h7.1, hps]
  · obtain ⟨src, B, n, x, dx, us, ds, Q0, W0, rfl, h1, h2, h3, h4, h5, h6, h7, h8, h9⟩ := h
    obtain ⟨g, hg⟩ : ∃ g : Gc, g = ⟨K, ct, src⟩ := ⟨_, rfl⟩
    rw [← hg] at h3 h5 h6 h8 h9
    have gK : g.K = K := by rw [hg]
    have gC : g.ct = ct := by rw [hg]
    refine ⟨_, body cdv A outer s H E ⟨g, fun a => B a ∨ a = x, H, fun _ => False⟩ gK gC rfl hr, ?_⟩
    have hl := h6.length
    have hx : ¬ InS g x := fun z => h2 (h3 x z)
    have dom : ∀ a, (B a ∨ a = x) → H a ≠ none := fun a z => by
      rcases z with z | rfl
      · exact h4 a z
      · rw [h1]; exact fun z => nomatch z
    have R0 : Rel ⟨g, fun a => B a ∨ a = x, H, fun _ => False⟩ (fun a => B a ∨ a = x) (L2.start N (.ref x :: us)) H (.un :: ds.map Sl.dat) (n + (c1 + c2)) := by
      refine ⟨⟨fun a z => .inl (h3 a z), dom, fun a h => h, fun a h => .inl h, dom, Kp.refl H, h5⟩, ?_, fun i y o e1 e2 => ?_, fun i j p y z ne e1 o1 => ?_⟩
      · unfold L2.start
        simp only [List.length_append, List.length_map, List.length_replicate, List.length_cons]
        have h71 := h7.1
        omega
      · cases i with
        | zero => cases e1; trivial
        | succ i =>
          rw [List.getElem?_cons_succ, List.getElem?_map] at e1
          cases ed : ds[i]? with
          | none => rw [ed] at e1; cases e1
          | some d =>
            rw [ed] at e1
            cases e1
            obtain ⟨v, ev, rv⟩ := h6.get ed
            unfold L2.start at e2
            have hi : i < us.length := (List.getElem?_eq_some_iff.mp ev).1
            rw [List.getElem?_append_left (by rw [List.length_map, List.length_cons]; omega), List.getElem?_map, List.getElem?_cons_succ, ev] at e2
            cases e2
            exact ⟨v, rfl, rv⟩
      · cases i with
        | zero => cases e1; cases o1
        | succ i =>
          rw [List.getElem?_cons_succ, List.getElem?_map] at e1
          cases ed : ds[i]? with
          | none => rw [ed] at e1; cases e1
          | some d => rw [ed] at e1; cases e1; cases o1
    have er : ∀ (y : Err) (cls : Value) (dd : Option Addr) (H' : Hp), ErrAt g (fun a => B a ∨ a = x) H' cls dd y → ErrAt g B H' cls dd y := fun y cls dd H' z => by
      obtain ⟨C', e1, e2, e3⟩ := z
      refine ⟨C', e1, e2, ?_⟩
      rcases e3 with e3 | ⟨d, kvs, z1, z2, z3, z4, z5⟩
      · exact .inl e3
      · exact .inr ⟨d, kvs, z1, z2, fun z => z3 (.inl z), z4.move fun a o h nb => ⟨h, fun z => nb (.inl z)⟩, z5⟩
    refine rd_i (W := fun cls d _ H => E cls d H) (m := n + c2) (R0.mono (m := n + c2 + c1) (by omega)) h7.2 (fun y v H1 q1 e1 R1 r1 => ?_) (fun y cls dd H' q e s z => h9 y cls dd H' q e (s.mono (by omega)) (er _ _ _ _ z))
    refine rd_i (W := fun cls d _ H => E cls d H) (m := n) R1 q1 (fun d u H2 q2 e2 R2 r2 => ?_) (fun y cls dd H' q e s z => h9 y cls dd H' q (e1.trans e) s (er _ _ _ _ z))
    have hx2 : H2 x = some (.ins C dx []) := e2 x _ hx (e1 x _ hx h1)
    refine ⟨.ref x, rfl, x, C, dx, [], rfl, hx2, cl, na, by simp, ?_⟩
    have k2 : ∀ a o, H2 a = some o → a ≠ x → upd H2 x (.ins C dx (putF fl u [])) a = some o := fun a o h ne => by rw [upd_ne ne]; exact h
    refine h8 _ _ q2 (fun a o ni ne e => k2 a o (e2 a o ni (e1 a o ni e)) ne) (fun s' c' e => ?_) ?_
    · obtain ⟨cells, turn, g0, g1, g2, g3, g4, g5, g6⟩ := R2.ok.src s' c' e
      have n1 : s' ≠ x := fun z => hx (z ▸ ⟨s', c', e, .inl rfl⟩)
      have n2 : c' ≠ x := fun z => hx (z ▸ ⟨s', c', e, .inr rfl⟩)
      exact ⟨cells, turn, g0, k2 _ _ g1 n1, k2 _ _ g2 n2, g3, g4, g5, g6⟩
    · refine .obj (by rw [gK]; exact ns) upd_same h2 ?_
      show RepsF g B _ [(fl, u)] [(fl, d)]
      exact .cons (r2.move fun a o h nb => ⟨k2 a o h (fun z => nb (.inr z)), fun z => nb (.inl z)⟩) .nil
end
section
variable {f : FrC} {X : Cx} {W : WX} {k c ca : Nat} {C fa : Addr} {fd : FuncData} {ps : List Str} {sp : Sp} {E : XK} {x : Str} {p pos : Pos} {e : Expr} {es : List Expr} {m : MF} {mas : MA} {ct : Str → Option Addr}
theorem run_makeS {pins : List (Addr × Obj)} {σ : L2.St} {H : Hp} {s : Shared} {Q : VK} {us : List Value} {vs : List V} (M : Mk X.K C fa) (F : FnOk X.prog X.w X.K X.mg X.base (L2.CX X.prog X.w) k fa fd ps sp) (hr : Room (k + 1) X.A) (hb : Binds X.K fd ps [])
    (hx : PassesAt (L2.CX X.prog X.w) X σ E) (I : Inv X pins σ H s) (r : Vals vs us)
    (h : ∀ x dx, H x = none → H dx = none → dx ≠ x → sp (.ref x :: vs) (upd (upd H dx (.own x)) x (.ins C dx [])) (fun v H2 => v = .non ∧ Q (.ref x) H2) E) :
    wpAny (model X.prog X.w) X.A (call (.ref C) us) (EP X pins σ Q) X.xe s := by
  have hq := h (s.heap.objs.size + 1) s.heap.objs.size (I.hok.fresh (Nat.le_succ _)) (I.hok.fresh (Nat.le_refl _)) (Nat.ne_of_lt (Nat.lt_succ_self _))
  have I2 := Inv.made (C := C) I
  have r2 : Vals (V.ref (s.heap.objs.size + 1) :: vs) (Value.ref (s.heap.objs.size + 1) :: us) := .cons rfl r
  have hl : (Value.ref (s.heap.objs.size + 1) :: us ++ []).length = ps.length := by
    have e := r2.length
    rw [F.len _ _ _ _ hq] at e
    rw [List.append_nil]
    exact e.symm
  have b2 := hb _ (Value.ref (s.heap.objs.size + 1) :: us) I2.kIn hl
  rw [List.append_nil] at b2
  refine wpAny_call (make_map (f := fa) I.kIn M.makes M.init (beq_iff_eq.mp M.fn) (codeAny_mono (F.run _ X.stack _ _ ⟨Value.ref (s.heap.objs.size + 1) :: us, []⟩ (Value.ref (s.heap.objs.size + 1) :: us) _ _ E (hr.make C us [])
    (I2.env0.make C us []) b2 r2 hq) fun r s' hq' => ?_))
  cases r with
  | error e => exact hx pins _ _ e s' I2 hq'
  | ok fl =>
    cases fl with
    | ret u =>
      obtain ⟨v, H', I3, rv, ev, q3⟩ := I2.after hq'
      subst ev
      exact ⟨rv, ⟨V.ref (s.heap.objs.size + 1), H', I3, rfl, q3⟩⟩
    | next => exact False.elim hq'
    | brk => exact False.elim hq'
    | cont => exact False.elim hq'
def tMakeS (C : Addr) (sp : Sp) (E : L2.St → XK) (t : TA) : TE := fun σ H Q => t σ H fun vs H1 => ∀ x dx, H1 x = none → H1 dx = none → dx ≠ x →
  sp (.ref x :: vs) (upd (upd H1 dx (.own x)) x (.ins C dx [])) (fun v H2 => v = .non ∧ Q (.ref x) H2) (E σ)
theorem pe_makeS {Es : L2.St → XK} {t : TA} (M : Mk X.K C fa) (F : FnOk X.prog X.w X.K X.mg X.base (L2.CX X.prog X.w) k fa fd ps sp) (hr : Room (k + 1) X.A) (hg : Gl X x) (hm : X.mg x = some (.ref C)) (hb : Binds X.K fd ps []) (hx : ∀ σ, PassesAt (L2.CX X.prog X.w) X σ (Es σ))
    (ha : PA X (e :: es) t) (hdb : (x == ("__debug__" : Str)) = false := by decide) (he : starEach (e :: es) X.env = (false, eval e X.env) :: starEach es X.env := by rfl) (hpl : (backTo pos (starEach es X.env)).any (·.1) = false := by rfl) :
    PE X (.Call (.Name x p) (e :: es) [] pos) (tMakeS C sp Es t) := by
  refine ⟨fun pins s σ H Q I h => ?_⟩
  refine wpAny_Call_Name_kw (ld_glob I hg hm ?_ hdb)
  refine PySem.W.callWith_K (h₀ := X.base) I.ok.mod.kin M.kp (thn (ha.run pos pins s σ H _ I h) fun us s1 ⟨vs, H1, I1, r, q⟩ => ⟨I1.kIn, ?_⟩) he hpl
  exact run_makeS M F hr hb (hx σ) I1 r q
/-- C(..) -/
theorem ce_make (M : Mk X.K C fa) (F : FnMk X.prog X.w X.K X.mg X.base ct k fa fd ps c C m) (hct : f.g.ct = ct) (hK : f.g.K = X.K) (tk : Takes X W) (hr : Room (k + 1) X.A) (hg : Gl X x) (hm : X.mg x = some (.ref C)) (hb : Binds X.K fd ps [])
    (ha : CA f X W ca (e :: es) mas) (hdb : (x == ("__debug__" : Str)) = false := by decide) (he : starEach (e :: es) X.env = (false, eval e X.env) :: starEach es X.env := by rfl) (hpl : (backTo pos (starEach es X.env)).any (·.1) = false := by rfl) :
    CE f X W (ca + c) (.Call (.Name x p) (e :: es) [] pos) (mCall m mas) := PE.imp (pe_makeS M F hr hg hm hb (fun σ => passAt tk σ) ha hdb he hpl) fun σ H Q h => by
  obtain ⟨B, n, ρ, Q0, W0, R, hm, hq, hw⟩ := h
  refine ra_i (m := n + c) (R.mono (by omega)) hm (fun ds vs H1 h1 e1 R1 r1 => ?_) (fun x cls dd H' q e s er => hw x cls dd H' q e (s.mono (by omega)) er)
  intro x dx hx hdx hne
  have gw : Gw H1 (upd (upd H1 dx (.own x)) x (.ins C dx [])) := fun a o h => by
    rw [upd_ne (ne_of_none h hx), upd_ne (ne_of_none h hdx)]
    exact h
  have nx : ∀ a o, H1 a = some o → a ≠ x := fun a o h => ne_of_none h hx
  have dom := R1.ok.dom
  have inB : ∀ a, InS f.g a → B a := fun a h => R1.ok.inB h
  have hsrc : SrcOk f.g (upd (upd H1 dx (.own x)) x (.ins C dx [])) (n + c) := gw.src R1.ok.src
  have hrep : Reps f.g (fun a => B a ∨ a = x) (upd (upd H1 dx (.own x)) x (.ins C dx [])) vs ds := (r1.avoid hx).grow gw
  obtain ⟨g, B0, H0⟩ := f
  obtain ⟨K, ct', src⟩ := g
  cases hK
  cases hct
  refine ⟨src, B, n, x, dx, vs, ds, Q0, W0, rfl, upd_same, nB dom hx, inB, fun a ha => ?_, hsrc, hrep, h1, fun d H' q kx s r => ⟨rfl, ?_⟩, fun y cls dd H' q kp s er => hw y cls dd H' q (e1.trans (gw.kp.trans kp)) s er⟩
  · cases z : H1 a with
    | none => exact absurd z (dom a ha)
    | some o => rw [gw a o z]; exact fun z => nomatch z
  · exact hq d _ H' q (e1.trans fun a o ni h => kx a o ni (nx a o h) (gw a o h)) s r
end
/-! words for the classes of a text -/
structure Dm (K : PySem.W.Frag) (x qual : Str) (st : Stmt) (ps : List Str) (fa : Addr) (fd : FuncData) : Prop where
  F : Fun K x qual st fa fd
  b : Binds K fd ps []
  fi : PySem.W.fnIn K fa = true
  fn : PySem.W.isFn K (.ref fa) = true
/-- a statement of a class's body -/
def clsStmt (st : Stmt) (j : Nat) : Stmt := match st with
  | .ClassDef _ _ _ body _ _ _ _ _ _ _ => body.getD j (.Pass ⟨0, 0, 0, 0⟩)
  | s => s
end Hm
namespace Hm
open PySem L2
theorem FnMk.cost {P : Program} {w : World} {K : PySem.W.Frag} {mg : Str → Option Value} {base : Heap} {ct : Str → Option Addr} {k c c' : Nat} {f C : Addr} {fd : FuncData} {ps : List Str} {m : MF} (F : FnMk P w K mg base ct k f fd ps c C m) (hc : c ≤ c') : FnMk P w K mg base ct k f fd ps c' C m :=
  FnOk.imp F fun vs H Q E z => by
    obtain ⟨src, B, n, x, dx, us, ds, Q0, W0, h1, h2, h3, h4, h5, h6, h7, h8, h9, h10⟩ := z
    exact ⟨src, B, n + (c' - c), x, dx, us, ds, Q0, W0, h1, h2, h3, h4, h5, h6.mono (by omega), h7, h8, fun d H' q kx s r => h9 d H' q kx (s.mono (by omega)) r, fun y cls dd H' q kp s er => h10 y cls dd H' q kp (s.mono (by omega)) er⟩
end Hm
set_option Elab.async false
set_option linter.all false
set_option maxRecDepth 100000
set_option maxHeartbeats 2000000
namespace PySem.W
open Lean Elab Tactic Meta PySem PySem.Calls PyProof.Rows
/-- the class stands right over object -/
def mroTwo (K : Frag) (C : Addr) : Bool := (clsIn K C).any fun cd => cd.mro == [.ref C, .type "object"]
section
variable {prog : Program} {w : World} {A : Around} {E : Value → Shared → Prop} {s : Shared} {K : Frag} {x C C2 L f f2 : Addr} {h₀ : Heap} {m : Str → Option Value} {ox : Obj} {od : Option Obj} {b : Value} {T : String}
theorem mroTwo_get (h : mroTwo K C = true) : ∃ cd, clsIn K C = some cd ∧ cd.mro = [.ref C, .type "object"] := by
  unfold mroTwo at h
  cases e : clsIn K C with
  | none => rw [e] at h; cases h
  | some cd => rw [e] at h; exact ⟨cd, rfl, beq_iff_eq.mp h⟩
theorem hm_fillsN {M : Model} {h : Heap} {nm : String} (X : K.In h) (hm : mroTwo K C = true) (h1 : findIn K (.ref C) (PySem.dunder nm) = some none) (h2 : findIn K (.ref C) (dunderR nm) = some none)
    (h3 : findIn K (.type "object") (PySem.dunder nm) = some none) (h4 : findIn K (.type "object") (dunderR nm) = some none) : Looks M h (fillsNumberSlot (.ref C) nm) false := by
  obtain ⟨cd, hc, hm⟩ := mroTwo_get hm
  intro A Q E s k q
  obtain ⟨hh, g, d, tt, os⟩ := s
  have X' : K.In hh := X.keeps k
  have L1 : Looks M hh (typeLookup (.ref C) (PySem.dunder nm)) none := looks_findIn X' h1
  have L2 : Looks M hh (typeLookup (.ref C) (dunderR nm)) none := looks_findIn X' h2
  have L3 : Looks M hh (typeLookup (.type "object") (PySem.dunder nm)) none := looks_findIn X' h3
  have L4 : Looks M hh (typeLookup (.type "object") (dunderR nm)) none := looks_findIn X' h4
  unfold fillsNumberSlot
  refine wpAny_bind ((looks_clsIn X' hc).andThen (f := fun cd => pure cd.mro) .now A _ E _ (fun _ _ e => e) ?_)
  rw [hm, List.anyM_cons]
  refine wpAny_bind ?_
  show wpAny M A (List.anyM _ [PySem.dunder nm, dunderR nm]) _ _ _
  simp only [List.anyM_cons, List.anyM_nil]
  repeat lk
  exact q
/-- an operator, the left operand an instance whose class has it, the right one of a built-in type -/
theorem hm_binL {op : Operator} {fo ro : Option Value} {Q : Value → Shared → Prop} (X : K.In s.heap) (I : InstAt s.heap x ox C od) (hb : Looks (model prog w) s.heap (typeOf b) (.type T)) (hc : selfFirst K C = true)
    (hs : findIn K (.ref C) (PySem.dunder op.info.2) = some (some (.ref f))) (hf : isFn K (.ref f) = true) (hr : findIn K (.ref C) (dunderR op.info.2) = some none)
    (h1 : findIn K (.type T) (PySem.dunder op.info.2) = some fo) (h2 : findIn K (.type T) (dunderR op.info.2) = some ro) (hsub : subIn K (.type T) (.ref C) = some false)
    (h : wpAny (model prog w) A (call (.ref f) [.ref x, b]) (CmpBack Q) E s) : wpAny (model prog w) A (binaryOp op (.ref x) b) Q E s := by
  obtain ⟨cd, rest, hcd, hm⟩ := ksp_first hc
  rcases hi : op.info with ⟨sym, nm'⟩
  rw [hi] at hs hr h1 h2
  dsimp only at hs hr h1 h2
  have one := ksp_try X I hs hf h
  obtain ⟨hh, g, d, tt, os⟩ := s
  have L1 : Looks (model prog w) hh (typeOf (.ref x)) (.ref C) := I.type
  have L2 : Looks (model prog w) hh (typeOf b) (.type T) := hb
  have L3 : Looks (model prog w) hh (fillsNumberSlot (.ref C) nm') true := fills_K X hcd hm hs
  have L4 : Looks (model prog w) hh (fillsNumberSlot (.type T) nm') ((fo.isSome && !isSeqSlot fo) || (ro.isSome && !isSeqSlot ro)) := ksp_fillsT X h1 h2
  have L5 : Looks (model prog w) hh (isSubtype (.type T) (.ref C)) false := looks_subIn X hsub
  have L6 : Looks (model prog w) hh (numberSlotInPython (.ref C) nm') true := ksp_inPy X hs hr (.inl rfl)
  have L7 : Looks (model prog w) hh (numberSlotInPython (.type T) nm') false := Looks.of_pure rfl
  have L8 : Looks (model prog w) hh (typeLookup (.type T) (dunderR nm')) ro := looks_findIn X h2
  generalize ((fo.isSome && !isSeqSlot fo) || (ro.isSome && !isSeqSlot ro)) = right at L4
  have hne : (Value.ref C == Value.type T) = false := Bool.eq_false_iff.mpr fun q => by cases beq_iff_eq.mp q
  simp only [binaryOp, hi]
  refine wpAny_holding (wpAny_bind ?_)
  unfold binaryOp1
  refine wpAny_bind (L1.at (wpAny_bind (L2.at (wpAny_bind (L3.at ?_)))))
  simp only [hne, Bool.false_eq_true, if_false]
  cases right with
  | false =>
    ksp_lk
    refine wpAny_mono one (fun r s' hr' => ?_) fun _ _ e => e
    obtain ⟨v, rfl, hq⟩ := hr'
    ksp_lk
    exact hq
  | true =>
    ksp_lk
    refine wpAny_mono one (fun r s' hr' => ?_) fun _ _ e => e
    obtain ⟨v, rfl, hq⟩ := hr'
    ksp_lk
    exact hq
/-- .. the right one of another class that has the operator too -/
theorem hm_binO {op : Operator} {Q : Value → Shared → Prop} (X : K.In s.heap) (I : InstAt s.heap x ox C od) (hb : Looks (model prog w) s.heap (typeOf b) (.ref C2)) (hne : C ≠ C2) (hc : selfFirst K C = true) (hc2 : selfFirst K C2 = true)
    (hs : findIn K (.ref C) (PySem.dunder op.info.2) = some (some (.ref f))) (hf : isFn K (.ref f) = true) (hr : findIn K (.ref C) (dunderR op.info.2) = some none)
    (hs2 : findIn K (.ref C2) (PySem.dunder op.info.2) = some (some (.ref f2))) (hr2 : findIn K (.ref C2) (dunderR op.info.2) = some none) (hsub : subIn K (.ref C2) (.ref C) = some false)
    (h : wpAny (model prog w) A (call (.ref f) [.ref x, b]) (CmpBack Q) E s) : wpAny (model prog w) A (binaryOp op (.ref x) b) Q E s := by
  obtain ⟨cd, rest, hcd, hm⟩ := ksp_first hc
  obtain ⟨cd2, rest2, hcd2, hm2⟩ := ksp_first hc2
  rcases hi : op.info with ⟨sym, nm'⟩
  rw [hi] at hs hr hs2 hr2
  dsimp only at hs hr hs2 hr2
  have one := ksp_try X I hs hf h
  obtain ⟨hh, g, d, tt, os⟩ := s
  have L1 : Looks (model prog w) hh (typeOf (.ref x)) (.ref C) := I.type
  have L2 : Looks (model prog w) hh (typeOf b) (.ref C2) := hb
  have L3 : Looks (model prog w) hh (fillsNumberSlot (.ref C) nm') true := fills_K X hcd hm hs
  have L4 : Looks (model prog w) hh (fillsNumberSlot (.ref C2) nm') true := fills_K X hcd2 hm2 hs2
  have L5 : Looks (model prog w) hh (isSubtype (.ref C2) (.ref C)) false := looks_subIn X hsub
  have L6 : Looks (model prog w) hh (numberSlotInPython (.ref C) nm') true := ksp_inPy X hs hr (.inl rfl)
  have L7 : Looks (model prog w) hh (numberSlotInPython (.ref C2) nm') true := ksp_inPy X hs2 hr2 (.inl rfl)
  have hne' : (Value.ref C == Value.ref C2) = false := Bool.eq_false_iff.mpr fun q => hne (by cases beq_iff_eq.mp q; rfl)
  simp only [binaryOp, hi]
  refine wpAny_holding (wpAny_bind ?_)
  unfold binaryOp1
  refine wpAny_bind (L1.at (wpAny_bind (L2.at (wpAny_bind (L3.at ?_)))))
  simp only [hne', Bool.false_eq_true, if_false]
  ksp_lk
  refine wpAny_mono one (fun r s' hr' => ?_) fun _ _ e => e
  obtain ⟨v, rfl, hq⟩ := hr'
  ksp_lk
  exact hq
/-- .. the right one of another class that lacks the operator -/
theorem hm_binN {op : Operator} {Q : Value → Shared → Prop} (X : K.In s.heap) (I : InstAt s.heap x ox C od) (hb : Looks (model prog w) s.heap (typeOf b) (.ref C2)) (hne : C ≠ C2) (hc : selfFirst K C = true) (hm2 : mroTwo K C2 = true)
    (hs : findIn K (.ref C) (PySem.dunder op.info.2) = some (some (.ref f))) (hf : isFn K (.ref f) = true) (hr : findIn K (.ref C) (dunderR op.info.2) = some none)
    (hs2 : findIn K (.ref C2) (PySem.dunder op.info.2) = some none) (hr2 : findIn K (.ref C2) (dunderR op.info.2) = some none) (h3 : findIn K (.type "object") (PySem.dunder op.info.2) = some none) (h4 : findIn K (.type "object") (dunderR op.info.2) = some none) (hsub : subIn K (.ref C2) (.ref C) = some false)
    (h : wpAny (model prog w) A (call (.ref f) [.ref x, b]) (CmpBack Q) E s) : wpAny (model prog w) A (binaryOp op (.ref x) b) Q E s := by
  obtain ⟨cd, rest, hcd, hm⟩ := ksp_first hc
  rcases hi : op.info with ⟨sym, nm'⟩
  rw [hi] at hs hr hs2 hr2 h3 h4
  dsimp only at hs hr hs2 hr2 h3 h4
  have one := ksp_try X I hs hf h
  obtain ⟨hh, g, d, tt, os⟩ := s
  have L1 : Looks (model prog w) hh (typeOf (.ref x)) (.ref C) := I.type
  have L2 : Looks (model prog w) hh (typeOf b) (.ref C2) := hb
  have L3 : Looks (model prog w) hh (fillsNumberSlot (.ref C) nm') true := fills_K X hcd hm hs
  have L4 : Looks (model prog w) hh (fillsNumberSlot (.ref C2) nm') false := hm_fillsN X hm2 hs2 hr2 h3 h4
  have L5 : Looks (model prog w) hh (isSubtype (.ref C2) (.ref C)) false := looks_subIn X hsub
  have L6 : Looks (model prog w) hh (numberSlotInPython (.ref C) nm') true := ksp_inPy X hs hr (.inl rfl)
  have L8 : Looks (model prog w) hh (typeLookup (.ref C2) (dunderR nm')) none := looks_findIn X hr2
  have hne' : (Value.ref C == Value.ref C2) = false := Bool.eq_false_iff.mpr fun q => hne (by cases beq_iff_eq.mp q; rfl)
  simp only [binaryOp, hi]
  refine wpAny_holding (wpAny_bind ?_)
  unfold binaryOp1
  refine wpAny_bind (L1.at (wpAny_bind (L2.at (wpAny_bind (L3.at ?_)))))
  simp only [hne', Bool.false_eq_true, if_false]
  ksp_lk
  refine wpAny_mono one (fun r s' hr' => ?_) fun _ _ e => e
  obtain ⟨v, rfl, hq⟩ := hr'
  ksp_lk
  exact hq
end
end PySem.W
namespace Hm
open PySem L2 PySem.Spec PyProof.Rows
/-! ### operators with any right operand -/
inductive OkR (K : PySem.W.Frag) (C : Addr) (op : Operator) : Value → Prop
  | ty {T : String} {fo ro : Option Value} : PySem.W.findIn K (.type T) (PySem.dunder op.info.2) = some fo → PySem.W.findIn K (.type T) (dunderR op.info.2) = some ro → PySem.W.subIn K (.type T) (.ref C) = some false → OkR K C op (.type T)
  | same : OkR K C op (.ref C)
  | has {C2 f2 : Addr} : C ≠ C2 → PySem.W.selfFirst K C2 = true → PySem.W.findIn K (.ref C2) (PySem.dunder op.info.2) = some (some (.ref f2)) → PySem.W.findIn K (.ref C2) (dunderR op.info.2) = some none → PySem.W.subIn K (.ref C2) (.ref C) = some false → OkR K C op (.ref C2)
  | lacks {C2 : Addr} : C ≠ C2 → PySem.W.mroTwo K C2 = true → PySem.W.findIn K (.ref C2) (PySem.dunder op.info.2) = some none → PySem.W.findIn K (.ref C2) (dunderR op.info.2) = some none → PySem.W.findIn K (.type "object") (PySem.dunder op.info.2) = some none →
      PySem.W.findIn K (.type "object") (dunderR op.info.2) = some none → PySem.W.subIn K (.ref C2) (.ref C) = some false → OkR K C op (.ref C2)
structure OBin (K : PySem.W.Frag) (cs : List Str) (C : Addr) (op : Operator) (fa : Addr) : Prop where
  sf : PySem.W.selfFirst K C = true
  at_ : PySem.W.findIn K (.ref C) (PySem.dunder op.info.2) = some (some (.ref fa))
  rn : PySem.W.findIn K (.ref C) (dunderR op.info.2) = some none
  fn : PySem.W.isFn K (.ref fa) = true
  b : ∀ T ∈ isiA, OkR K C op (.type T)
  o : ∀ c ∈ cs, ∀ C', PySem.W.nsIn K mainGlobals c = some (some (.ref C')) → OkR K C op (.ref C')
def rBiA (X : Cx) (C : Addr) (op : Operator) (sp : Sp) (E : L2.St → XK) : L2.St → R2 := fun σ x y H Q => ∃ ad dx fs t, x = .ref ad ∧ H ad = some (.ins C dx fs) ∧ TyX X.K H y t ∧ OkR X.K C op t ∧ sp [x, y] H Q (E σ)
section
variable {X : Cx} {CX : CXT} {k : Nat} {fa C : Addr} {fd : FuncData} {ps : List Str} {sp : Sp} {cn nm : Str} {cs : List Str} {Es : L2.St → XK} {e o : Expr} {es : List Expr} {pos apos : Pos} {ta : TE} {t : TA}
theorem op_any {op : Operator} (Z : OBin X.K cs C op fa) (F : FnOk X.prog X.w X.K X.mg X.base CX k fa fd ps sp) (hr : Room k X.A) (hb : Binds X.K fd ps []) (hx : ∀ σ, PassesAt CX X σ (Es σ)) : OpS X (binaryOp op) (rBiA X C op sp Es) := by
  intro pins s σ H x y v u Q I rx ry h
  obtain ⟨ad, dx, fs, t, rfl, ha, ty, okr, q⟩ := h
  cases rx
  obtain ⟨od, J⟩ := ins_at I ha
  obtain ⟨m, hF⟩ := I.fr
  obtain ⟨P, kx, hP, _⟩ := kit_of I ry ty
  have hty := kx.ty (model X.prog X.w) s.heap I.kIn hP
  have run : wpAny (model X.prog X.w) X.A (call (.ref fa) [.ref ad, u]) (PySem.W.CmpBack (EP X pins σ Q)) X.xe s :=
    wpAny_mono (run_obj (us := [.ref ad, u]) (vs := [.ref ad, y]) F hr I.env0 hb (hx σ) I (.cons rfl (.cons ry .nil)) q) (fun r s' z => back_of z) fun _ _ e => e
  cases okr with
  | ty h1 h2 h3 => exact PySem.W.hm_binL I.kIn J hty Z.sf Z.at_ Z.fn Z.rn h1 h2 h3 run
  | same => exact PySem.W.binop_K hF I.ok.mod.kin J hty Z.sf Z.at_ Z.fn run
  | has h1 h2 h3 h4 h5 => exact PySem.W.hm_binO I.kIn J hty h1 Z.sf h2 Z.at_ Z.fn Z.rn h3 h4 h5 run
  | lacks h1 h2 h3 h4 h5 h6 h7 => exact PySem.W.hm_binN I.kIn J hty h1 Z.sf h2 Z.at_ Z.fn Z.rn h3 h4 h5 h6 h7 run
/-- o.m(e, ..), errors at these slots -/
def tMethS (C : Addr) (m : Str) (sp : Sp) (E : L2.St → XK) (ta : TE) (t : TA) : TE := fun σ H Q => ta σ H fun x H1 => ∃ a dx fs, x = .ref a ∧ H1 a = some (.ins C dx fs) ∧ fs.lookup m = none ∧ t σ H1 fun vs H2 => sp (x :: vs) H2 Q (E σ)
theorem pe_methS {pl : Sem Bool} (he : PE X o ta) (c : Cls X.K C) (hm : Meth X.K C nm fa) (F : FnOk X.prog X.w X.K X.mg X.base CX k fa fd ps sp) (hr : Room k X.A) (hb : Binds X.K fd ps []) (hx : ∀ σ, PassesAt CX X σ (Es σ)) (ha : PA X (e :: es) t)
    (hst : starEach (e :: es) X.env = (false, eval e X.env) :: starEach es X.env := by rfl) (hpl : (backTo pos (starEach es X.env)).any (·.1) = false := by rfl)
    (ht : eval (.Call (.Attribute o nm apos) (e :: es) [] pos) X.env = (do
      let ov ← eval o X.env
      standAt apos.atName
      let (f, first) ← holding [ov] (getMethod ov nm pl)
      callWith pos f first (backTo pos (starEach (e :: es) X.env)) (backToKw pos (keywordEach [] X.env))) := by rfl) :
    PE X (.Call (.Attribute o nm apos) (e :: es) [] pos) (tMethS C nm sp Es ta t) := by
  refine ⟨fun pins s σ H Q I h => ?_⟩
  refine PySem.W.methodCall_KW (pl := pl) (thn (he.run pins s σ H _ I h) fun u s1 ⟨x, H1, I1, rx, a, dx, fs, ex, ea, l, q⟩ => ?_) ht
  subst ex
  obtain rfl : u = Value.ref a := rx
  refine getmeth_ok I1 ea c hm l ?_
  refine PySem.W.callWith_K (first := [.ref a]) (h₀ := X.base) I.ok.mod.kin hm.kp (thn (ha.run pos pins s1 σ H1 _ I1 q) fun us s2 ⟨vs, H2, I2, r, q2⟩ => ⟨I2.kIn, ?_⟩) hst hpl
  exact run_fnS (us := .ref a :: us) (vs := .ref a :: vs) F hr hb (hx σ) I2 (.cons rfl r) q2
end
/-! over data -/
def mAlt (a b : ME) : ME := fun ρ Q W => a ρ Q W ∨ b ρ Q W
def noF (nm : Str) : D → Bool
  | .obj _ fs => fs.all fun kv => !decide (nm = kv.1)
  | _ => false
def mMeth (cn nm : Str) (fn : MF) (a : ME) (as : MA) : ME := fun ρ Q W => a ρ (fun x => isO cn x ∧ noF nm x = true ∧ as ρ (fun xs => fn (x :: xs) Q W) W) W
def dInE (neg : Bool) : D → D → DK → Prop
  | x, .lst xs, Q => x.okE = true ∧ (D.lst xs).okE = true ∧ Q (.bl (if neg then !(xs.any fun z => z.eqv x) else xs.any fun z => z.eqv x))
  | _, _, _ => False
theorem noF_get {g : Gc} {B : Addr → Prop} {H : Hp} {nm : Str} : ∀ {kvs : List (Str × V)} {ds : List (Str × D)}, RepsF g B H kvs ds → (ds.all fun kv => !decide (nm = kv.1)) = true → kvs.lookup nm = none
  | _, _, .nil, _ => rfl
  | _, _, @RepsF.cons _ _ _ k v vs d ds r t, h => by
    rw [List.all_cons, Bool.and_eq_true] at h
    have h1 : nm ≠ k := by simpa using h.1
    rw [List.lookup_cons, beq_eq_false_iff_ne.mpr h1]
    exact noF_get t h.2
section
variable {f : FrC} {X : Cx} {W : WX} {c ca cb k : Nat} {a b : Expr} {es : List Expr} {ma mb : ME} {mas : MA} {pos : Pos} {m : MF} {ct : Str → Option Addr} {cs : List Str} {cn nm : Str} {C fa : Addr} {fd : FuncData} {ps : List Str}
theorem ce_alt {e : Expr} (ha : CE f X W ca e ma) (hb : CE f X W cb e mb) : CE f X W (ca + cb) e (mAlt ma mb) := by
  refine ⟨fun pins s σ H Q I h => ?_⟩
  obtain ⟨B, n, ρ, Q0, W0, R, hm, hq, hw⟩ := h
  rcases hm with hm | hm
  · exact ha.run pins s σ H Q I ⟨B, n, ρ, Q0, W0, R.mono (by omega), hm, hq, hw⟩
  · exact hb.run pins s σ H Q I ⟨B, n, ρ, Q0, W0, R.mono (by omega), hm, hq, hw⟩
theorem ce_biA {op : Operator} (hn : PySem.W.nsIn X.K mainGlobals cn = some (some (.ref C))) (tab : OTab X.K cs) (Z : OBin X.K cs C op fa) (F : FnD X.prog X.w X.K X.mg X.base ct k fa fd ps c m) (hct : f.g.ct = ct) (hK : f.g.K = X.K) (tk : Takes X W) (hr : Room k X.A) (hbi : Binds X.K fd ps []) (ha : CE f X W ca a ma) (hb : CE f X W cb b mb) :
    CE f X W (ca + cb + c) (.BinOp a op b pos) (mEqO cs cn m ma mb) :=
  PE.imp (pe_opS (op_any Z F hr hbi (fun σ => passAt tk σ)) ha hb) fun σ H Q h => by
    obtain ⟨B, n, ρ, Q0, W0, R, hm, hq, hw⟩ := h
    refine rd_i (m := n + c + cb) (R.mono (by omega)) hm (fun x v H1 h1 e1 R1 r1 => ?_) (fun x cls dd H' q e s er => hw x cls dd H' q e (s.mono (by omega)) er)
    refine rd_i (m := n + c) R1 h1 (fun y u H2 h2 e2 R2 r2 => ?_) (fun x cls dd H' q e s er => hw x cls dd H' q (e1.trans e) (s.mono (by omega)) er)
    have r1' := r1.kp R1.ok e2
    obtain ⟨ad, dx, fs, rfl, hi⟩ := rep_ins (hK ▸ hn) r1' h2.1
    obtain ⟨t, ty, z⟩ := Rep.tyx (hK ▸ tab) r2 h2.2.1
    refine ⟨ad, dx, fs, t, rfl, hi, hK ▸ ty, ?_, sp_of hct hK R2 (.cons r1' (.cons r2 .nil)) h2.2.2 (fun d v H' q e s r => hq d v H' q ((e1.trans e2).trans e) s r) fun x cls dd H' q e s er => hw x cls dd H' q ((e1.trans e2).trans e) s er⟩
    rcases z with ⟨T, hT, _, rfl, _⟩ | ⟨c', C', fs', _, hc, ns, rfl⟩
    · exact Z.b T hT
    · exact Z.o c' hc C' (hK ▸ ns)
theorem ce_meth {e o : Expr} {mo : ME} {co : Nat} {apos : Pos} {pl : Sem Bool} (ho : CE f X W co o mo) (M : ObM X.K cn nm C fa) (cl : Cls X.K C) (F : FnD X.prog X.w X.K X.mg X.base ct k fa fd ps c m) (hct : f.g.ct = ct) (hK : f.g.K = X.K) (tk : Takes X W) (hr : Room k X.A) (hbi : Binds X.K fd ps []) (ha : CA f X W ca (e :: es) mas)
    (hst : starEach (e :: es) X.env = (false, eval e X.env) :: starEach es X.env := by rfl) (hpl : (backTo pos (starEach es X.env)).any (·.1) = false := by rfl)
    (ht : eval (.Call (.Attribute o nm apos) (e :: es) [] pos) X.env = (do
      let ov ← eval o X.env
      standAt apos.atName
      let (f, first) ← holding [ov] (getMethod ov nm pl)
      callWith pos f first (backTo pos (starEach (e :: es) X.env)) (backToKw pos (keywordEach [] X.env))) := by rfl) :
    CE f X W (co + ca + c) (.Call (.Attribute o nm apos) (e :: es) [] pos) (mMeth cn nm m mo mas) :=
  PE.imp (pe_methS (pl := pl) ho cl ⟨M.at_, M.fn, M.kp⟩ F hr hbi (fun σ => passAt tk σ) ha hst hpl ht) fun σ H Q h => by
    obtain ⟨B, n, ρ, Q0, W0, R, hm, hq, hw⟩ := h
    refine rd_i (m := n + c + ca) (R.mono (by omega)) hm (fun x v H1 h1 e1 R1 r1 => ?_) (fun x cls dd H' q e s er => hw x cls dd H' q e (s.mono (by omega)) er)
    have r1c := r1
    obtain ⟨ad, dx, fs, rfl, hi⟩ := rep_ins (hK ▸ M.ns) r1 h1.1
    refine ⟨ad, dx, fs, rfl, hi, ?_, ra_i (m := n + c) R1 h1.2.2 (fun ds vs H2 h2 e2 R2 r2 => ?_) fun x cls dd H' q e s er => hw x cls dd H' q (e1.trans e) (s.mono (by omega)) er⟩
    · have hno := h1.2.1
      cases r1c with
      | obj e hi' nb rs =>
        rw [hi] at hi'
        cases hi'
        exact noF_get rs hno
      | _ => cases hno
    · exact sp_of hct hK R2 (.cons (r1.kp R1.ok e2) r2) h2 (fun d v H' q e s r => hq d v H' q ((e1.trans e2).trans e) s r) fun x cls dd H' q e s er => hw x cls dd H' q ((e1.trans e2).trans e) s er
end
theorem pys_any {x : D} : ∀ xs : List D, ((pys xs).any fun z => PyData.eqv z x.py) = xs.any fun z => z.eqv x
  | [] => rfl
  | y :: r => by
    show (PyData.eqv y.py x.py || (pys r).any _) = _
    rw [pys_any r]; rfl
theorem od_inE {K : PySem.W.Frag} : OpD K (rInD K) (dInE false) := od_plain fun g B H vx vy x y Q0 Q hK rx ry h k => by
  subst hK
  cases y with
  | lst xs =>
    obtain ⟨h1, h2, h3⟩ := h
    have p1 := Bool.and_eq_true_iff.mp h1
    have p2 := Bool.and_eq_true_iff.mp h2
    refine ⟨x.py, pys xs, rx.dp p1.1, ry.dp p2.1, p1.2, p2.2, ?_⟩
    rw [pys_any]
    exact k _ _ h3 (.bl _)
  | _ => exact h.elim
theorem od_notInE {K : PySem.W.Frag} : OpD K (rNotInD K) (dInE true) := od_plain fun g B H vx vy x y Q0 Q hK rx ry h k => by
  subst hK
  cases y with
  | lst xs =>
    obtain ⟨h1, h2, h3⟩ := h
    have p1 := Bool.and_eq_true_iff.mp h1
    have p2 := Bool.and_eq_true_iff.mp h2
    refine ⟨x.py, pys xs, rx.dp p1.1, ry.dp p2.1, p1.2, p2.2, ?_⟩
    rw [pys_any]
    exact k _ _ h3 (.bl _)
  | _ => exact h.elim
end Hm
theorem Hm.u65 {k : Nat} {A : PySem.Around} (r : L2.Room k A) : A.units + 65 < PySem.cLine := by have := r.un; omega
set_option Elab.async false
set_option linter.all false
set_option maxRecDepth 100000
set_option maxHeartbeats 2000000
namespace Hm
open PySem L2 PySem.Spec PyProof.Rows NdefX
/-! ### an __init__ of an own error over ValueError that begins with super().__init__(text) -/
/-- what the written part says of it: the class at C, its cell at cc -/
structure SupC (K : PySem.W.Frag) (mg : Str → Option Value) (C cc : Addr) : Prop where
  ox : OexC K C
  cell : ∃ cl cld csl, K.lookup cc = some ⟨cl, cld, .cell (some (.ref C)), csl⟩
  sub : PySem.W.mroIn K C (.ref C) = some true
  sup : PySem.W.ks_superIn K C C "__init__" = some (some (.builtin "ValueError.__init__"))
  isV : PySem.W.subIn K (.ref C) (.type "ValueError") = some true
  st : PySem.W.nsIn K cStatics "thirdparty.any" = some none
  mg : mg "super" = none
section
variable {X : Cx} {pins : List (Addr × Obj)} {σ : L2.St} {H : Hp} {s : Shared} {a u C cc : Addr} {E : Value → Shared → Prop}
theorem exc_ne {P : Program} {w : World} {h : Heap} {oC : Obj} {cd : ClassData} (hok : HOk P w H h) (ea : H a = some (exo a C none)) (hC : h.get? C = some oC) (hd : oC.data = .cls cd) : a ≠ C := fun z => by
  subst z
  obtain ⟨t1, ho⟩ := exo_at hok ea
  rw [ho] at hC
  cases hC
  cases hd
/-- the bound ValueError.__init__ called -/
theorem bw_call {us : List Value} {Q : Value → Shared → Prop} (T : OexC X.K C) (I : Inv X pins σ H s) (e : H a = some (exo a C none)) (hu : s.heap.get? u = some (PySem.W.kxs_mw "ValueError.__init__" a)) (hl : us.length ≤ sizeLine) (h : ∀ s', Inv X pins σ H s' → Q .none s') :
    wpAny (model X.prog X.w) X.A (call (.ref u) us) Q E s := by
  obtain ⟨nm, q, N, bs, bm, sn, sub, ab, col, dd, k0, k1, k2, k3, k5, hC, hbm⟩ := T.cls
  obtain ⟨t1, ho⟩ := exo_at I.hok e
  obtain ⟨hp, g, d, t, os⟩ := s
  have fin : ∀ h', (∀ b o, b ≠ a → hp.get? b = some o → h'.get? b = some o) → h'.get? a = some (PySem.W.excObj C hp.objs.size none .none) → h'.get? hp.objs.size = some (PySem.W.excTup us) → Q .none ⟨h', g, d, t, os⟩ := fun h' k hx _ => by
    have J := I.write (t' := t) (x := a) (e := a) (o := exo a C none) (by rw [e]; exact True.intro) (.inl rfl) k ⟨_, hx⟩ (exo_ok hx)
    have eu : upd H a (exo a C none) = H := by
      funext b
      by_cases hb : b = a
      · rw [hb, upd_same, e]
      · rw [upd_ne hb]
    rw [eu] at J
    exact h _ J
  refine wpAny_call (codeAny_of_tree ?_)
  show wpAny _ X.A.in1 (callAny (.ref u) ⟨us, []⟩) _ _ _
  simp only [callAny]
  refine wpAny_bind (wpAny_load hu ?_)
  simp only [PySem.W.kxs_mw, show (Value.type "method-wrapper" == Value.type "method" || Value.type "method-wrapper" == Value.type "builtin_function_or_method" || Value.type "method-wrapper" == Value.type "method-wrapper") = true by decide, if_true]
  refine PySem.W.KFB.if_so (by decide) ?_
  refine wpAny_bind (PySem.W.check_bound_init PySem.F.excBase_ValueError.toExcCallFacts (I.kIn _ _ hC) ho rfl ?_)
  refine wpAny_bind (wpAny_pure (wpAny_pure ?_))
  refine ⟨plainId_quiet PySem.F.excBase_ValueError.init.plain _, codeAny_builtin PySem.F.excBase_ValueError.initEntry ?_⟩
  exact PySem.W.exc_init_tree (cls := .ref C) (t0 := t1) (dv := none) (c2 := .none) (c3 := .none) (b4 := .bool false) ho hl fin
/-- the statement super().__init__('..') -/
theorem super_stmt {F : NF} {f L : Addr} {fd : FuncData} {ar : Arg} {vs : Array Value} {file : Str} {tf : Tok} {oc ccl : Value} {od cdd : Option Addr} {osl ccs : Array (Option Value)} {m : Str} {j : Nat} {p0 p1 p2 p3 p4 p5 : Pos} {pl : Sem Bool} {Q : Flow → Shared → Prop}
    (henv : X.env = envF F f L) (S : SupC X.K X.mg C cc) (I : Inv X pins σ H s) (ea : H a = some (exo a C none)) (hσ : σ[0]? = some (some (.ref a))) (hN : X.N[0]? = some ar.arg) (hv : F.scope.names.lookup ar.arg = some .local)
    (hf : X.K.lookup f = some ⟨oc, od, .func fd, osl⟩) (hp : (fd.params.posonlyargs ++ fd.params.args).head? = some ar) (hcode : X.K.lookup F.c = some ⟨ccl, cdd, .fields vs, ccs⟩) (hvs : vs[2]? = some (.str file tf)) (hfile : ((X.prog.main.file : Str) == file) = true)
    (hks : F.scope.names.lookup ("super" : Str) = some .globalImplicit) (hkc : F.scope.names.lookup ("__class__" : Str) = some .free) (hcl : F.cl.lookup ("__class__" : Str) = some cc) (htop : (X.prog.main.scope.names.lookup ("super" : Str)).isSome = false)
    (he : eval (.Call (.Attribute (.Call (.Name "super" p0) [] [] p1) "__init__" p2) [.Constant (.str m) j p5] [] p3) X.env = (do
      let ov ← attributeBase (.Call (.Name "super" p0) [] [] p1) "__init__" X.env (eval (.Call (.Name "super" p0) [] [] p1) X.env)
      standAt p2.atName
      let (f, first) ← holding [ov] (getMethod ov "__init__" pl)
      callWith p3 f first (backTo p3 (starEach [.Constant (.str m) j p5] X.env)) []))
    (hi : interactive X.env = false) (hs : swapsWith (.Call (.Attribute (.Call (.Name "super" p0) [] [] p1) "__init__" p2) [.Constant (.str m) j p5] [] p3) none p4.line X.env = pure false)
    (hq : ∀ s', Inv X pins σ H s' → Q .next s') :
    PySem.wpAt (model X.prog X.w) X.A (.func F.body X.env) (exec (.Expr (.Call (.Attribute (.Call (.Name "super" p0) [] [] p1) "__init__" p2) [.Constant (.str m) j p5] [] p3) p4) X.env) Q X.xe s := by
  obtain ⟨nm, q, N, bs, bm, sn, sub, ab, col, dd, k0, k1, k2, k3, k5, hC, hbm⟩ := S.ox.cls
  obtain ⟨cl, cld, csl, hcell⟩ := S.cell
  obtain ⟨mb, hb1, hb2⟩ := I.mod.blt
  have hk : X.env.scope.kind = .function := I.ok.kind
  have kos : X.env.kindOf "super" = some .globalImplicit := by rw [henv]; exact hks
  have koc : X.env.kindOf "__class__" = some .free := by rw [henv]; exact hkc
  have hfu : X.env.func = some f := by rw [henv]
  have hco : X.env.code = .ref F.c := by rw [henv]
  have hlc : X.env.cells.lookup ("__class__" : Str) = some cc := by rw [henv]; exact hcl
  refine PySem.ks_wpAt_Expr_any ?_ hi hs
  refine PySem.ks_wpAt_MethodCall (pl := pl) ?_ he
  refine PySem.ks_wpAt_super_base kos koc (by decide) hfu (I.kIn _ _ hf) rfl hp hco (I.kIn _ _ hcode) rfl hvs hfile htop ?_
  refine PySem.W.ks_loadName_global hk kos (Calls.loadGlobal_builtin (by rw [I.ok.glob]; exact I.mod.glob.keeps I.bk) S.mg (by rw [I.ok.blt]; exact hb1.keeps I.bk) ((hb2 _ (by decide)).trans (by decide +kernel : bootBuiltins "super" = some (.type "super"))) ⟨rfl, ?_⟩)
  refine wpAny_loadName_free hk koc hlc ⟨_, I.kIn _ _ hcell, rfl⟩ ?_
  obtain ⟨m', hn, hl⟩ := I.loc
  obtain ⟨u, ru, lk⟩ := hl 0 ar.arg (.ref a) hN hσ (by rw [henv]; exact .inl hv)
  cases ru
  have hv' : X.env.kindOf ar.arg = some .local := by rw [henv]; exact hv
  have hm' : m' ar.arg = some (.ref a) := by
    rcases lk with ⟨_, e⟩ | ⟨e, _⟩
    · exact e
    · rw [hv'] at e; rcases e with e | e <;> cases e
  refine wpAny_loadName_local hk hv' hn hm' ?_
  refine PySem.ks_wpAny_isType_cls (I.kIn _ _ hC) rfl ⟨rfl, ?_⟩
  obtain ⟨t1, ho⟩ := exo_at I.hok ea
  obtain ⟨hh, g, d, t, os⟩ := s
  refine PySem.ks_wpAny_call_super (I.kIn _ _ hC) rfl ho rfl (fun c z => by cases z) (PySem.W.looks_mroIn I.kIn S.sub) (fun h' hso kp => ?_)
  have I1 : Inv X pins σ H ⟨h', g, d, t, os⟩ := I.kept (t' := t) kp
  obtain ⟨cd, hcd⟩ : ∃ cd, PySem.W.clsIn X.K C = some cd := by
    have q := S.sup
    unfold PySem.W.ks_superIn at q
    cases z : PySem.W.clsIn X.K C with
    | none => rw [z] at q; cases q
    | some cd => exact ⟨cd, rfl⟩
  have hsup := S.sup
  unfold PySem.W.ks_superIn at hsup
  rw [hcd] at hsup
  have ty : PySem.W.Looks (model X.prog X.w) h' (typeOf (.ref a)) (.ref C) := by
    obtain ⟨t2, ho2⟩ := exo_at I1.hok ea
    exact PySem.W.InstAt.type (od := none) (ox := PySem.W.excObj C t2 none .none) ⟨ho2, rfl, rfl, trivial⟩
  refine PySem.W.kxs_getMethod PySem.W.kxs_ValueError hso (PySem.W.looks_opaque I1.kIn S.st) (l₀ := cd.mro) (fun A Q E s k q => wpAny_bind ((PySem.W.looks_clsIn I1.kIn hcd) A _ E s k (wpAny_pure q))) rfl I1.kIn hsup (ty.andThen (PySem.W.looks_subIn I1.kIn S.isV))
    (exc_ne I1.hok ea (I1.kIn _ _ hC) rfl) (by decide) ?_
  have kp2 : ∀ b o, h'.get? b = some o → (h'.push (PySem.W.kxs_mw "ValueError.__init__" a)).get? b = some o := fun b o e => Heap.get?_push_of_some _ e
  have I2 : Inv X pins σ H ⟨h'.push (PySem.W.kxs_mw "ValueError.__init__" a), g, d, t + 1, os⟩ := I1.kept (t' := t + 1) kp2
  have hu : (h'.push (PySem.W.kxs_mw "ValueError.__init__" a)).get? h'.objs.size = some (PySem.W.kxs_mw "ValueError.__init__" a) := Heap.get?_push_at rfl rfl
  have hst : starEach [.Constant (.str m) j p5] X.env = (false, eval (.Constant (.str m) j p5) X.env) :: starEach [] X.env := rfl
  rw [hst]
  refine PySem.W.kxs_callWith (i := "ValueError.__init__") (x := a) rfl ?_
  show wpAny _ _ (evalArgs _ true ((false, eval (.Constant (.str m) j p5) X.env) :: backTo p3 (starEach [] X.env)) []) _ _ _
  refine Calls.evalArgs_plain (Calls.spliced_cons (Calls.Constant_str (Calls.spliced_nil ⟨hu, ?_⟩)))
  have I3 : Inv X pins σ H ⟨h'.push (PySem.W.kxs_mw "ValueError.__init__" a), g, d, t + 1 + 1, os⟩ := I2.tok _
  exact bw_call S.ox I3 ea hu (by show 1 ≤ sizeLine; rw [sizeLine_eq]; omega) fun s' J => hq s' J
end
section
variable {P : Program} {w : World} {K : PySem.W.Frag} {mg : Str → Option Value} {base : Heap} {k : Nat} {f C cc : Addr} {F : NF} {doc pm ctv oc ccl : Value} {od cdd : Option Addr} {osl ccs : Array (Option Value)} {N ps : List Str} {sp : Sp} {ar : Arg} {vs0 : Array Value} {file : Str} {tf : Tok}
  {m : Str} {j : Nat} {p0 p1 p2 p3 p4 p5 : Pos} {pl : Env → Sem Bool} {rest : List Stmt}
theorem fn_super (lk : K.lookup f = some ⟨oc, od, .func (F.fd doc pm ctv), osl⟩) (hcd : PySem.W.codeIn K (.ref F.c) F.qual = true) (S : NScope N ps ["__class__"] F.scope) (U : SupC K mg C cc) (hcl : F.cl = [(("__class__" : Str), cc)])
    (len : ∀ vs H Q E, sp vs H Q E → vs.length = ps.length) (h0 : ∀ vs H Q E, sp vs H Q E → ∃ a us, vs = .ref a :: us ∧ H a = some (exo a C none))
    (hp : (F.params.posonlyargs ++ F.params.args).head? = some ar) (hN : N[0]? = some ar.arg) (hv : F.scope.names.lookup ar.arg = some .local) (hcode : K.lookup F.c = some ⟨ccl, cdd, .fields vs0, ccs⟩) (hvs : vs0[2]? = some (.str file tf)) (hfile : ((P.main.file : Str) == file) = true)
    (hks : F.scope.names.lookup ("super" : Str) = some .globalImplicit) (hkc : F.scope.names.lookup ("__class__" : Str) = some .free) (htop : (P.main.scope.names.lookup ("super" : Str)).isSome = false)
    (hbody : F.body = .Expr (.Call (.Attribute (.Call (.Name "super" p0) [] [] p1) "__init__" p2) [.Constant (.str m) j p5] [] p3) p4 :: rest)
    (he : ∀ L, eval (.Call (.Attribute (.Call (.Name "super" p0) [] [] p1) "__init__" p2) [.Constant (.str m) j p5] [] p3) (envF F f L) = (do
      let ov ← attributeBase (.Call (.Name "super" p0) [] [] p1) "__init__" (envF F f L) (eval (.Call (.Name "super" p0) [] [] p1) (envF F f L))
      standAt p2.atName
      let (f', first) ← holding [ov] (getMethod ov "__init__" (pl (envF F f L)))
      callWith p3 f' first (backTo p3 (starEach [.Constant (.str m) j p5] (envF F f L))) []))
    (hi : ∀ L, interactive (envF F f L) = false) (hs : ∀ L, swapsWith (.Call (.Attribute (.Call (.Name "super" p0) [] [] p1) "__init__" p2) [.Constant (.str m) j p5] [] p3) none p4.line (envF F f L) = pure false)
    (body : ∀ (A : Around) (outer : List Env) (s : Shared) (H : Hp) (vs : List V) (Q : VK) (E : XK), Room k (A.deeper (envF F f s.heap.objs.size)) → sp vs H Q E →
      ∃ t, PSs (ncx (L2.CX P w) P w K mg base N F f A outer s H E) rest t ∧ t { nx := fun _ H' => Q .non H', rt := Q } (startF N vs [some (.ref C)]) H) :
    FnOk P w K mg base (L2.CX P w) (k + 1) f (F.fd doc pm ctv) ps sp := by
  refine ⟨len, fun A outer s H args us vs Q E hr e0 hb r hsp => ?_⟩
  have KX : K.In s.heap := e0.mod.kin.keeps fun b o e => (e0.bs b o e).1
  have hl := len _ _ _ _ hsp
  have lim : s.heap.NoLimit := e0.mod.nolimit.keeps fun b o e => (e0.bs b o e).1
  obtain ⟨cl, cld, csl, hcell⟩ := U.cell
  have hH : H cc = none := (e0.bs _ _ (e0.mod.kin _ _ hcell)).2
  have hic : s.heap.IsCell cc (some (.ref C)) := ⟨_, KX _ _ hcell, rfl⟩
  have one : ∀ {y : Str} {c : Addr}, F.cl.lookup y = some c → y = "__class__" ∧ c = cc := fun {y c} e => by
    rw [hcl, List.lookup_cons] at e
    by_cases z : y = ("__class__" : Str)
    · rw [beq_iff_eq.mpr z] at e
      exact ⟨z, (Option.some.inj e).symm⟩
    · rw [beq_eq_false_iff_ne.mpr z] at e
      cases e
  have hlk : F.cl.lookup ("__class__" : Str) = some cc := by rw [hcl, List.lookup_cons, beq_self_eq_true]
  have CA : CellsAt F.cl ["__class__"] [some (.ref C)] s.heap H := by
    refine ⟨rfl, fun y c e => ?_, fun x y c e1 e2 => ?_, fun i y e => ?_⟩
    · obtain ⟨_, rfl⟩ := one e
      exact ⟨hH, _, hic⟩
    · rw [(one e1).1, (one e2).1]
    · cases i with
      | zero =>
        cases e
        exact ⟨cc, hlk, fun v e => by cases e; exact ⟨.ref C, rfl, hic⟩⟩
      | succ i => cases e
  refine PySem.ks_codeAny_call_defAt (fd := F.fd doc pm ctv) (body := F.body) (binds := ps.zip us) hr.depth (KX _ _ lk) rfl lim (PySem.W.codeRec_of KX hcd) rfl hb S.nocell (fun ⟨n, _⟩ hy => S.par n (List.of_mem_zip hy).1) (fun h₁ hns kp => ?_) S.co S.gen S.kind
  have I : Inv (ncx (L2.CX P w) P w K mg base N F f A outer s H E) [] (startF N vs [some (.ref C)]) H { s with heap := h₁, toks := s.toks + (ps.zip us).length } := inv_startN S hr.hd e0 hl r CA hns kp
  obtain ⟨a, us', rfl, ea⟩ := h0 _ _ _ _ hsp
  obtain ⟨t, ht, hq⟩ := body A outer s H _ Q E (hr.deeper _) hsp
  have fin : ∀ {σ' : L2.St} {H' : Hp} {v : V} {u : Value} {s' : Shared}, Inv (ncx (L2.CX P w) P w K mg base N F f A outer s H E) [] σ' H' s' → L2.RelV v u → Q v H' → L2.CE outer P w H s Q u s' :=
    fun {σ' H' v u s'} J rv q => ⟨v, H', J.os, J.bare, J.base, J.hok, rv, q⟩
  show PySem.wpAt (model P w) (A.deeper (envF F f s.heap.objs.size)) (.func F.body (envF F f s.heap.objs.size)) (execs F.body (envF F f s.heap.objs.size)) _ _ _
  suffices q : PySem.wpAt (model P w) (A.deeper (envF F f s.heap.objs.size)) (.func F.body (envF F f s.heap.objs.size)) (execs (.Expr (.Call (.Attribute (.Call (.Name "super" p0) [] [] p1) "__init__" p2) [.Constant (.str m) j p5] [] p3) p4 :: rest) (envF F f s.heap.objs.size))
      (fun fl s' => CR (L2.CX P w) outer P w H s Q E (.ok (.ret (match fl with | .ret v => v | _ => .none))) s') (ncx (L2.CX P w) P w K mg base N F f A outer s H E).xe { s with heap := h₁, toks := s.toks + (ps.zip us).length } by
    rw [← hbody] at q
    exact q
  refine PySem.ks_wpAt_execs_cons ?_
  refine super_stmt (X := ncx (L2.CX P w) P w K mg base N F f A outer s H E) (pl := pl _) rfl U I ea rfl hN hv lk hp hcode hvs hfile hks hkc hlk htop (he _) (hi _) (hs _) (fun s' J => ?_)
  refine PySem.wpAt_of_wpAny (wpAny_mono (ht.run [] s' _ H _ J hq) (fun fl s2 hs2 => ?_) fun e s' hs => hs)
  cases fl with
  | ret u =>
    obtain ⟨v, σ', H', J, rv, q⟩ := hs2
    exact fin J rv q
  | next =>
    obtain ⟨σ', H', J, q⟩ := hs2
    exact fin (v := V.non) (u := Value.none) J rfl q
  | brk =>
    obtain ⟨_, _, _, q⟩ := hs2
    exact False.elim q
  | cont =>
    obtain ⟨_, _, _, q⟩ := hs2
    exact False.elim q
end
end Hm
set_option Elab.async false
set_option linter.all false
set_option maxRecDepth 100000
set_option maxHeartbeats 2000000
namespace PySem.W
open Lean Elab Tactic Meta PySem PySem.Calls PyProof.Rows
section
variable {prog : Program} {w : World} {A : Around} {E : Value → Shared → Prop} {s : Shared} {K : Frag} {x D : Addr} {ox : Obj} {od : Option Obj}
theorem hm_classE {Q : Option Value → Shared → Prop} (hga : findIn K (.ref D) "__getattribute__" = some (some (.builtin "BaseException.__getattribute__"))) (hgt : findIn K (.ref D) "__getattr__" = some none) (hsub : subIn K (.ref D) (.type "BaseException") = some true)
    (hf : findObj K D od "__class__" = some (.bind (.builtin "getset_descriptor.__get__") (.builtin "object.__class__"))) (hm : mroIn K D (.type "object") = some true)
    (X : K.In s.heap) (I : InstAt s.heap x ox D od) (h : Q (some (.ref D)) { s with toks := s.toks + 1 }) : wpAny (model prog w) A (getAttr? (.ref x) "__class__") Q E s := by
  obtain ⟨hp, g, d, t, os⟩ := s
  have L0 := I.type (M := model prog w)
  have L1 := looks_findIn (M := model prog w) X hga
  have L2 := looks_findIn (M := model prog w) X hgt
  have L3 := looks_find (M := model prog w) X I hf
  have sub : Looks (model prog w) hp (isInstance (.ref x) (.type "BaseException")) true := L0.andThen (looks_subIn X hsub)
  have hx0 : (false && onTheHeap (Value.builtin "BaseException.__getattribute__")) = false := rfl
  have hx2 : (Value.builtin "BaseException.__getattribute__" == Value.builtin "object.__getattribute__") = false := by decide +kernel
  have hx1 : (onTheHeap (Value.ref D) && Value.builtin "BaseException.__getattribute__" == Value.builtin "object.__getattribute__") = false := by rw [hx2]; rfl
  unfold getAttr? getAttrBy? getAttrBy
  refine wpAny_bind (wpAny_mkText (wpAny_bind (wpAny_attempt (wpAny_holding (wpAny_bind (L0.at (wpAny_bind (L1.at ?_))))))))
  show wpAny _ _ (if (onTheHeap (Value.ref D) && Value.builtin "BaseException.__getattribute__" == Value.builtin "object.__getattribute__") = true then _ else _) _ _ _
  rw [hx1, if_neg Bool.false_ne_true]
  unfold getAttrByItsOwn hookBefore
  refine wpAny_bind ?_
  rw [if_pos (show onTheHeap (Value.ref D) = true from rfl)]
  refine L2.at ?_
  refine wpAny_bind (wpAny_attempt (wpAny_holding ?_))
  unfold callGetattribute
  rw [hx0, if_neg Bool.false_ne_true]
  unfold boundAndCalled
  rw [PySem.F.excAttr_ValueError.ga.bind (.ref x)]
  refine wpAny_bind (wpAny_pure ?_)
  show wpAny _ _ (call (.builtin "BaseException.__getattribute__") [.ref x, .str "__class__" t]) _ _ _
  refine wpAny_call (codeAny_call_builtin PySem.F.excAttr_ValueError.ga.plain PySem.F.entry_bexc_ga ?_)
  refine @check_slot (model prog w) _ _ ⟨hp, g, d, t + 1, os⟩ "BaseException.__getattribute__" "BaseException" "__getattribute__" (.ref x) [.str "__class__" t] [] _ (by decide +kernel) (by decide +kernel) sub (PySem.F.args_bexc_ga (.ref x) (.str "__class__" t)) ?_
  unfold Builtin.«object.__getattribute__»
  refine wpAny_bind (wpAny_of_eq (a := ((Value.ref x : Value), [Value.str "__class__" t])) (by first | rfl | (simp only [slotArgs]; rfl)) ?_)
  refine wpAny_bind (wpAny_pure (wpAny_bind (L0.at (wpAny_bind (L3.at ?_)))))
  show wpAny _ _ (holding [Value.builtin "object.__class__"] (call (.builtin "getset_descriptor.__get__") [.builtin "object.__class__", .ref x, .ref D]) >>= ret) _ _ _
  refine wpAny_bind (wpAny_holding (wpAny_call (class_get (s := ⟨hp, g, d, t + 1, os⟩) (ox := ox) (od := od) X I hm ?_)))
  refine wpAny_pure ?_
  show wpAny _ _ (handedOut (.ref D)) _ _ _
  rw [handedOut_of (v := .ref D) rfl]
  first
    | exact wpAny_pure (wpAny_pure h)
    | exact wpAny_pure h
    | exact wpAny_pure (wpAny_bind (wpAny_pure (wpAny_pure h)))
theorem hm_kitx_exc (hga : findIn K (.ref D) "__getattribute__" = some (some (.builtin "BaseException.__getattribute__"))) (hgt : findIn K (.ref D) "__getattr__" = some none) (hsub : subIn K (.ref D) (.type "BaseException") = some true) (hdct : hasDictIn K D = true)
    (hf : findObj K D od "__class__" = some (.bind (.builtin "getset_descriptor.__get__") (.builtin "object.__class__"))) (hm : mroIn K D (.type "object") = some true) :
    KitX K (.ref x) (.ref D) (fun h => InstAt h x ox D od) where
  ty := fun _ _ _ I => I.type
  it := fun _ _ X _ => by
    obtain ⟨cdD, hcD, _⟩ := any_some hdct
    unfold clsIn at hcD
    split at hcD
    · rename_i c' d' cd' sl' ho
      intro A' Q' E' s' k q
      unfold isType loadHead
      exact wpAny_bind (wpAny_loadPart (k _ _ (X _ _ ho)) (wpAny_pure q))
    · cases hcD
  ne := fun h tp dd its n sl X htp => by
    obtain ⟨cdD, hcD, _⟩ := any_some hdct
    refine Bool.eq_false_iff.mpr fun q => ?_
    have e : D = tp := Value.ref.inj (beq_iff_eq.mp q)
    subst e
    unfold clsIn at hcD
    split at hcD
    · rename_i c' d' cd' sl' ho
      have z := (X _ _ ho).symm.trans htp
      cases z
    · cases hcD
  ca := fun X I k => hm_classE hga hgt hsub hf hm X I k
end
end PySem.W
namespace Hm
open PySem L2 PySem.Spec PyProof.Rows
/-! ### isinstance of an error with fields -/
def dIsy (s : Str → Bool) : D → DK → Prop
  | .exc c _, Q => Q (.bl (s c))
  | _, _ => False
@[simp] theorem dIsy_eq {s : Str → Bool} {c : Str} {fs : List (Str × D)} {Q : DK} : dIsy s (.exc c fs) Q = Q (.bl (s c)) := Eq.trans rfl rfl
def rIsy (K : PySem.W.Frag) (cv : Value) : List V → Hp → VK → Prop := fun xs H Q => ∃ (a C dd : Addr) (kvs : List (Str × V)) (c : V) (b : Bool), xs = [.ref a, c] ∧ H a = some (ExO (.ref C) a (some dd)) ∧ H dd = some (.xd kvs) ∧ ExcC K C ∧ (∀ u, RelV c u → u = cv) ∧ PySem.W.kitOne K (.ref C) cv = some b ∧ Q (.bl b) H
theorem call_isy {X : Cx} {cv : Value} : CallR X (.builtin "isinstance") (rIsy X.K cv) := by
  intro pins s σ H xs us Q I r h
  obtain ⟨a, C, dd, kvs, c, b, rfl, ha, hd, hC, hcv, e, q⟩ := h
  cases r with
  | cons rx rr =>
    cases rr with
    | cons rt rr =>
      cases rr
      cases rx
      have ec := hcv _ rt
      subst ec
      obtain ⟨⟨oe, vs, hget, hz, hv⟩, _⟩ := I.hok a _ ha
      have hx : ObjOk X.prog X.w H s.heap dd (.xd kvs) := I.hok dd _ hd
      obtain ⟨mA, hns, hr⟩ := hx
      obtain ⟨od, ho, hl⟩ := lookIn_ns hns
      have J : PySem.W.InstAt s.heap a oe C (some od) := ⟨hget, hz.1, by unfold PySem.W.notCls; rw [hv] <;> rfl, by rw [hz.2]; exact ho⟩
      exact PySem.W.kia_one (PySem.W.hm_kitx_exc hC.hg hC.hk hC.hs hC.hd (PySem.W.findObj_data (by obtain ⟨cd, hc, _⟩ := PySem.W.any_some hC.hd; rw [hc]; rfl) hC.ha hC.hn hC.ht) hC.hm) I.kIn J e (fun z => nomatch z) fun tk => ⟨.bl b, H, I.kept (t' := tk) fun _ _ z => z, rfl, q⟩
section
variable {f : FrC} {X : Cx} {W : WX} {ca : Nat} {a : Expr} {ma : ME} {pos : Pos}
theorem ce_isy {x : Str} {cv : Value} {p p2 : Pos} {ct : Str → Option Addr} {K : PySem.W.Frag} {s : Str → Bool} (hct : f.g.ct = ct) (hKK : X.K = K) (hall : ∀ c C, ct c = some C → ExcC K C ∧ PySem.W.kitOne K (.ref C) cv = some (s c)) (hr : ∃ C, cv = .ref C)
    (hg : Gl X "isinstance") (hm : X.mg "isinstance" = none) (hg2 : Gl X x) (hm2 : X.mg x = some cv) (ha : CE f X W ca a ma)
    (hdb : (x == ("__debug__" : Str)) = false := by decide) (he : starEach [a, .Name x p2] X.env = (false, eval a X.env) :: starEach [.Name x p2] X.env := by rfl) (he2 : starEach [.Name x p2] X.env = (false, eval (.Name x p2) X.env) :: starEach [] X.env := by rfl)
    (hpl : (backTo pos (starEach [.Name x p2] X.env)).any (·.1) = false := by rfl) : CE f X W ca (.Call (.Name "isinstance" p) [a, .Name x p2] [] pos) (mUn (dIsy s) ma) := by
  obtain ⟨C0, rfl⟩ := hr
  refine PE.imp (pe_callB (CallR.or (call_isx (cv := .ref C0)) (call_isy (cv := .ref C0))) hg hm (by decide +kernel) (pa_cons ha (pa_cons (pe_glob hg2 hm2 (show RelV (.ref C0) (.ref C0) from rfl) hdb) pa_nil he2) he) (by decide) (by decide) he hpl) fun σ H Q h => ?_
  obtain ⟨B, n, ρ, Q0, W0, R, hm, hq, hw⟩ := h
  refine rd_i (m := n) R hm (fun y v H1 h1 e1 R1 r1 => ?_) hw
  cases r1 with
  | exc0 e1' h2 n2 =>
    obtain ⟨h3, h4⟩ := hall _ _ (hct ▸ e1')
    subst hKK
    exact .inl ⟨_, _, _, _, rfl, h2, h3, (fun u r => r), h4, hq _ _ H1 h1 e1 R1.ok.src (.bl _)⟩
  | exc1 e1' h2 n2 h3' n3 r3 q3 =>
    obtain ⟨h3, h4⟩ := hall _ _ (hct ▸ e1')
    subst hKK
    exact .inr ⟨_, _, _, _, _, _, rfl, h2, h3', h3, (fun u r => r), h4, hq _ _ H1 h1 e1 R1.ok.src (.bl _)⟩
  | _ => exact h1.elim
end
end Hm
set_option Elab.async false
set_option linter.all false
set_option maxRecDepth 100000
set_option maxHeartbeats 2000000
namespace Hm
open PySem L2 PySem.Spec PyProof.Rows NdefX
/-! ### errors as values -/
section
variable {X : Cx} {C : Addr} {bmB : List Value} {Bn newId initId : String} {x : Str} {e : Expr} {es : List Expr} {te : TE} {ta : TA} {p pos : Pos}
theorem exo_new {P : Program} {w : World} {H : Hp} {h : Heap} {a : Addr} {cls : Value} {d : Option Addr} {oe : Obj} {vs : Array Value} (e : h.get? a = some oe) (z : Zc cls d oe) (hd : oe.data = .fields vs) : ObjOk P w H h a (ExO cls a d) :=
  ⟨⟨oe, vs, e, z, hd⟩, ⟨oe, e⟩, fun _ _ ⟨o, v, q, r⟩ k => ⟨o, v, k o q, r⟩⟩
/-- X(), an error without own __init__ -/
theorem pe_ex0 (F : ExcBaseFacts Bn newId initId bmB) (q : PySem.W.excIn X.K C bmB newId = true) (gC : X.mg x = some (.ref C)) (kC : PySem.W.keepIn X.K (.ref C) = true) (hg : Gl X x) (hdb : (x == ("__debug__" : Str)) = false := by decide) :
    PE X (.Call (.Name x p) [] [] pos) (fun σ H Q => ∀ a, H a = none → Q (.ref a) (upd H a (ExO (.ref C) a none))) := by
  refine ⟨fun pins s σ H Q I h => ?_⟩
  refine wpAny_Call_Name_kw (ld_glob I hg gC ?_ hdb)
  refine PySem.W.callWith_K0 I.kIn kC ?_
  show wpAny _ _ (call (.ref C) []) _ _ _
  obtain ⟨bm, N, nm, qn, bs, hdct, sn, sub, ab, col, dd, k0, k1, k2, k3, k5, mN, hC, hN, hni, T⟩ := exc_obj I.kIn q
  refine wpAny_call_exc_subT F T hC hN hni (fun h' a hm => ?_) (by show 0 ≤ sizeLine; exact Nat.zero_le _)
  have hn : H a = none := I.hok.gone hm.new
  obtain ⟨t, ht, _, _⟩ := hm.there
  exact ⟨.ref a, _, I.laidN hm.keeps hm.new hn (exo_new ht ⟨rfl, rfl⟩ rfl), rfl, h a hn⟩
/-- X(e) -/
theorem pe_ex1 (F : ExcBaseFacts Bn newId initId bmB) (q : PySem.W.excIn X.K C bmB newId = true) (gC : X.mg x = some (.ref C)) (kC : PySem.W.keepIn X.K (.ref C) = true) (hg : Gl X x)
    (he : PE X e te) (hs : starEach [e] X.env = (false, eval e X.env) :: starEach [] X.env := by rfl) (hdb : (x == ("__debug__" : Str)) = false := by decide) :
    PE X (.Call (.Name x p) [e] [] pos) (fun σ H Q => te σ H fun _ H1 => ∀ a, H1 a = none → Q (.ref a) (upd H1 a (ExO (.ref C) a none))) := by
  refine ⟨fun pins s σ H Q I h => ?_⟩
  refine wpAny_Call_Name_kw (ld_glob I hg gC ?_ hdb)
  refine PySem.W.callWith_K (h₀ := X.base) I.ok.mod.kin kC ?_ hs (by rfl)
  rw [hs]
  show wpAny _ _ (spliced ((false, eval e X.env) :: backTo pos (starEach [] X.env))) _ _ s
  refine Calls.spliced_cons (thn (he.run pins s σ H _ I h) fun u s1 ⟨v, H1, I1, r1, q1⟩ => ?_)
  refine Calls.spliced_nil ⟨I1.kIn, ?_⟩
  show wpAny _ _ (call (.ref C) [u]) _ _ _
  obtain ⟨bm, N, nm, qn, bs, hdct, sn, sub, ab, col, dd, k0, k1, k2, k3, k5, mN, hC, hN, hni, T⟩ := exc_obj I1.kIn q
  refine wpAny_call_exc_subT F T hC hN hni (fun h' a hm => ?_) (by show 1 ≤ sizeLine; rw [sizeLine_eq]; omega)
  have hn : H1 a = none := I1.hok.gone hm.new
  obtain ⟨t, ht, _, _⟩ := hm.there
  exact ⟨.ref a, _, I1.laidN hm.keeps hm.new hn (exo_new ht ⟨rfl, rfl⟩ rfl), rfl, q1 a hn⟩
/-- what an __init__ of an error leaves: its fields -/
def spEx (k : Nat) (C : Addr) (mk : List V → List (Str × V)) : Sp := fun vs H Q _ => ∃ a us, vs = .ref a :: us ∧ us.length = k ∧ H a = some (exo a C none) ∧ ∀ d, H d = none → d ≠ a → Q .non (upd (upd H d (exd d (mk us))) a (exo a C (some d)))
theorem mk_heap {H : Hp} {a d C : Addr} {kvs : List (Str × V)} (na : H a = none) (hd : d ≠ a) :
    upd (del (upd (upd (upd H a (exo a C none)) d (exd d kvs)) a (exo a C (some d))) a) d (.xd kvs) = upd H d (.xd kvs) := by
  funext b
  by_cases h1 : b = d
  · rw [h1, upd_same, upd_same]
  · rw [upd_ne h1, upd_ne h1]
    by_cases h2 : b = a
    · rw [h2, del_same, na]
    · rw [del_ne h2, upd_ne h2, upd_ne h1, upd_ne h2]
theorem ex_fits {n : Nat} {mk : List V → List (Str × V)} {vs : List V} {H1 : Hp} {R : Addr → Addr → List (Str × V) → Hp → Prop} {E : XK} (hl : vs.length = n) (k : ∀ a d, H1 a = none → H1 d = none → d ≠ a → R a d (mk vs) (upd H1 d (.xd (mk vs)))) {a : Addr} (na : H1 a = none) :
    spEx n C mk (.ref a :: (vs ++ [])) (upd H1 a (exo a C none)) (fun v H2 => v = .non ∧ ∃ (d : Addr) (fs : List (Str × V)), H2 a = some (exo a C (some d)) ∧ H2 d = some (exd d fs) ∧ H1 d = none ∧ R a d fs (upd (del H2 a) d (.xd fs))) E := by
  refine ⟨a, vs, by rw [List.append_nil], hl, upd_same, fun d hd hda => ?_⟩
  rw [upd_ne hda] at hd
  refine ⟨rfl, d, mk vs, upd_same, by rw [upd_ne hda, upd_same], hd, ?_⟩
  rw [mk_heap na hda]
  exact k a d na hd hda
/-- X(e, ..) with own __init__, as a value -/
theorem pe_oexV {fI : Addr} {k : Nat} {fd : FuncData} {ps : List Str} {sp : Sp} (T : OexC X.K C) (iC : PySem.W.findIn X.K (.ref C) "__init__" = some (some (.ref fI))) (tI : PySem.W.typeIn X.K (.ref fI) = some (.type "function"))
    (F1 : FnOk X.prog X.w X.K X.mg X.base (L2.CX X.prog X.w) k fI fd ps sp) (hr : Room (k + 1) X.A) (hb : Binds X.K fd ps []) (hg : Gl X x) (hm : X.mg x = some (.ref C)) (ha : PA X (e :: es) ta)
    (hdb : (x == ("__debug__" : Str)) = false := by decide) (he : starEach (e :: es) X.env = (false, eval e X.env) :: starEach es X.env := by rfl) (hpl : (backTo pos (starEach es X.env)).any (·.1) = false := by rfl) :
    PE X (.Call (.Name x p) (e :: es) [] pos) (fun σ H Q => ta σ H fun vs H1 => vs.length ≤ 1000 ∧ ∀ a, H1 a = none → sp (.ref a :: (vs ++ [])) (upd H1 a (exo a C none))
      (fun v H2 => v = .non ∧ ∃ (d : Addr) (fs : List (Str × V)), H2 a = some (exo a C (some d)) ∧ H2 d = some (exd d fs) ∧ H1 d = none ∧ Q (.ref a) (upd (upd (del H2 a) d (.xd fs)) a (ExO (.ref C) a (some d)))) (fun _ _ _ => False)) := by
  refine ⟨fun pins s σ H Q I h => ?_⟩
  obtain ⟨nm, q, N, bs, bm, sn, sub, ab, col, dd, k0, k1, k2, k3, k5, hC, hbm⟩ := T.cls
  refine wpAny_Call_Name_kw (ld_glob I hg hm ?_ hdb)
  refine PySem.W.callWith_K (h₀ := X.base) I.ok.mod.kin T.kC (thn (ha.run pos pins s σ H _ I h) fun us s1 ⟨vs, H1, I1, r1, hz, q1⟩ => ⟨I1.kIn, ?_⟩) he hpl
  show wpAny _ _ (call (.ref C) us) _ _ _
  obtain ⟨hp, g, dr, tk, os⟩ := s1
  have hsz : hp.objs.size ≤ hp.objs.size + 1 := Nat.le_succ _
  have hn : H1 (hp.objs.size + 1) = none := I1.hok.fresh hsz
  have hq := q1 (hp.objs.size + 1) hn
  rw [List.append_nil] at hq
  have kk : ∀ b o, hp.get? b = some o → ((hp.push (PySem.W.kdv_tup us)).push (PySem.HandSPX.excO C hp.objs.size)).get? b = some o := fun b o e => Heap.get?_push_of_some _ (Heap.get?_push_of_some _ e)
  have hget : ((hp.push (PySem.W.kdv_tup us)).push (PySem.HandSPX.excO C hp.objs.size)).get? (hp.objs.size + 1) = some (PySem.HandSPX.excO C hp.objs.size) := by heap_get
  have I2 : Inv X pins σ (upd H1 (hp.objs.size + 1) (exo (hp.objs.size + 1) C none)) ⟨(hp.push (PySem.W.kdv_tup us)).push (PySem.HandSPX.excO C hp.objs.size), g, dr, tk, os⟩ :=
    I1.laid (t' := tk) (a := hp.objs.size + 1) (o := exo (hp.objs.size + 1) C none) (h' := (hp.push (PySem.W.kdv_tup us)).push (PySem.HandSPX.excO C hp.objs.size)) kk hsz (exo_ok hget)
  have r2 : Vals (V.ref (hp.objs.size + 1) :: vs) (Value.ref (hp.objs.size + 1) :: us) := .cons rfl r1
  have hl : (Value.ref (hp.objs.size + 1) :: us ++ []).length = ps.length := by
    have e := r2.length
    rw [F1.len _ _ _ _ hq] at e
    rw [List.append_nil]
    exact e.symm
  have bi := hb _ (Value.ref (hp.objs.size + 1) :: us) I2.kIn hl
  rw [List.append_nil] at bi
  have hus : us.length ≤ sizeLine := by
    rw [← Paired.length r1, sizeLine_eq]
    omega
  refine wpAny_call (PySem.HandSPX.call_own F.excBase_ValueError (fun Y => PySem.HandSPX.refsVE_contains Y bm hbm) (I1.kIn _ _ hC) (PySem.W.looks_findIn I1.kIn iC) (fun self => PySem.W.bind_fn I1.kIn self tI) hus
    (codeAny_mono (F1.run _ X.stack _ _ ⟨Value.ref (hp.objs.size + 1) :: us, []⟩ (Value.ref (hp.objs.size + 1) :: us) _ _ (fun _ _ _ => False) (hr.make C us []) (I2.env0.make C us []) bi r2 hq) fun r s' hq' => ?_))
  cases r with
  | error er =>
    obtain ⟨_, _, _, _, _, _, _, _, _, _, _, _, z⟩ := hq'
    exact z.elim
  | ok fl =>
    cases fl with
    | ret u =>
      obtain ⟨v, H2, os2, bare2, un2, hok2, rv, ev, d, fs, ea, ed, hd1, q2⟩ := hq'
      subst ev
      obtain ⟨h2, g2, d2, t2, os'⟩ := s'
      obtain ⟨t0, G, J, kG, ge, hoe, na⟩ := mk_end0 (d2 := d2) (t2 := t2) I1 hsz kk un2 hok2 os2 bare2 ea ed hd1
      exact ⟨rv, .ref (hp.objs.size + 1), _, J.laidN (t' := t2) kG ge na (exo_new hoe ⟨rfl, rfl⟩ rfl), rfl, q2⟩
    | next => exact False.elim hq'
    | brk => exact False.elim hq'
    | cont => exact False.elim hq'
/-- e.f of an error that is held -/
theorem pe_xfv {n : Str} (he : PE X e te) (hb : attributeBase e n X.env (eval e X.env) = eval e X.env := by rfl) :
    PE X (.Attribute e n pos) (fun σ H Q => te σ H fun x H1 => ∃ (a C dd : Addr) (fs : List (Str × V)) (v : V), x = .ref a ∧ H1 a = some (ExO (.ref C) a (some dd)) ∧ H1 dd = some (.xd fs) ∧ XfC X.K C ∧ PySem.W.findIn X.K (.ref C) n = some none ∧ fs.lookup n = some v ∧ Q v H1) := by
  refine ⟨fun pins s σ H Q I h => ?_⟩
  refine attr_of hb (thn (he.run pins s σ H _ I h) fun u s1 hh => ?_)
  obtain ⟨x, H1, I1, rx, a, C, dd, fs, v, ex, ha, ea, T, hno, l, q⟩ := hh
  subst ex
  obtain rfl : u = Value.ref a := rx
  obtain ⟨⟨oe, vs, hget, hz, hd⟩, _⟩ := I1.hok a _ ha
  have hx : ObjOk X.prog X.w H1 s1.heap dd (.xd fs) := I1.hok dd _ ea
  obtain ⟨mA, hns, hr⟩ := hx
  obtain ⟨od, ho, hl⟩ := lookIn_ns hns
  obtain ⟨u, hu, ru⟩ := RelO.some_of (v := v) (o := mA n) (by rw [← l]; exact hr n)
  have J : PySem.W.InstAt s1.heap a oe C (some od) := ⟨hget, hz.1, by unfold PySem.W.notCls; rw [hd] <;> rfl, by rw [hz.2]; exact ho⟩
  exact HandSPX.exc_get I1.kIn J T.ga T.gg T.exC (PySem.W.findObj_own T.hdC hno rfl (by rw [hl, hu])) (handed_of ru) ⟨v, H1, I1.tok _, ru, q⟩
end
/-! over data -/
def mkF {α : Type} (names : List Str) (xs : List α) : List (Str × α) := (names.zip xs).reverse
def dXf (cs : List Str) (f : Str) : D → DK → Prop
  | .exc c fs, Q => c ∈ cs ∧ fldD f fs Q
  | _, _ => False
def dMkE (x : Str) (_ : D) (Q : DK) : Prop := Q (.exc x [])
def mExI (x : Str) (names : List Str) (as : MA) : ME := fun ρ Q W => as ρ (fun ds => ds.length = names.length ∧ Q (.exc x (mkF names ds))) W
def mRaiseI (x : Str) (names : List Str) (as : MA) : MS := fun ρ E => as ρ (fun ds => ds.length = names.length ∧ E.ex ρ ⟨x, mkF names ds⟩) (E.ex ρ)
def OXf (K : PySem.W.Frag) (ct : Str → Option Addr) (cs : List Str) (f : Str) : Prop := ∀ c ∈ cs, ∀ C, ct c = some C → XfC K C ∧ PySem.W.findIn K (.ref C) f = some none
theorem repsF_zip {g : Gc} {B : Addr → Prop} {H : Hp} : ∀ (names : List Str) {vs : List V} {ds : List D}, Reps g B H vs ds → RepsF g B H (names.zip vs) (names.zip ds)
  | [], _, _, _ => .nil
  | _ :: _, _, _, .nil => .nil
  | _ :: ns, _, _, .cons r t => .cons r (repsF_zip ns t)
theorem repsF_app {g : Gc} {B : Addr → Prop} {H : Hp} : ∀ {a b : List (Str × V)} {c d : List (Str × D)}, RepsF g B H a c → RepsF g B H b d → RepsF g B H (a ++ b) (c ++ d)
  | _, _, _, _, .nil, s => s
  | _, _, _, _, .cons r t, s => .cons r (repsF_app t s)
theorem repsF_rev {g : Gc} {B : Addr → Prop} {H : Hp} : ∀ {a : List (Str × V)} {c : List (Str × D)}, RepsF g B H a c → RepsF g B H a.reverse c.reverse
  | _, _, .nil => .nil
  | _, _, .cons r t => by
    rw [List.reverse_cons, List.reverse_cons]
    exact repsF_app (repsF_rev t) (.cons r .nil)
theorem mkF_ne {names : List Str} {ds : List D} (h : ds.length = names.length) (hn : names ≠ []) : mkF names ds ≠ [] := fun z => by
  have := congrArg List.length z
  unfold mkF at this
  rw [List.length_reverse, List.length_zip, h, Nat.min_self] at this
  exact hn (List.length_eq_zero_iff.mp this)
/-- what is to be known of an error's class with an own __init__ -/
structure ErrI (K : PySem.W.Frag) (mg : Str → Option Value) (ct : Str → Option Addr) (x : Str) (C fI : Addr) : Prop where
  ct : ct x = some C
  gC : mg x = some (.ref C)
  ox : OexC K C
  iC : PySem.W.findIn K (.ref C) "__init__" = some (some (.ref fI))
  tI : PySem.W.typeIn K (.ref fI) = some (.type "function")
section
variable {f : FrC} {X : Cx} {W : WX} {ca k : Nat} {a e : Expr} {es : List Expr} {ma : ME} {mas : MA} {p pos cpos : Pos} {ct : Str → Option Addr} {x n : Str} {C fI : Addr} {fd : FuncData} {ps names cs : List Str}
theorem ce_ex0 (hct : f.g.ct = ct) (T : ErrC X.K X.mg ct x C) (hg : Gl X x) (hdb : (x == ("__debug__" : Str)) = false := by decide) : CE f X W 0 (.Call (.Name x p) [] [] pos) (mC (.exc x [])) :=
  PE.imp (pe_ex0 PySem.F.excBase_ValueError T.xC T.gC T.kC hg hdb) fun σ H Q h => by
    obtain ⟨B, n, ρ, Q0, W0, R, hm, hq, hw⟩ := h
    intro a na
    have gw : Gw H (upd H a (ExO (.ref C) a none)) := Gw.new na
    exact hq _ _ _ hm gw.kp (gw.src R.ok.src) (.exc0 (hct ▸ T.ct) upd_same (nB R.ok.dom na))
theorem ce_ex1 (hct : f.g.ct = ct) (T : ErrC X.K X.mg ct x C) (hg : Gl X x) (ha : CE f X W ca a ma) (hdb : (x == ("__debug__" : Str)) = false := by decide) (hs : starEach [a] X.env = (false, eval a X.env) :: starEach [] X.env := by rfl) : CE f X W ca (.Call (.Name x p) [a] [] pos) (mUn (dMkE x) ma) :=
  PE.imp (pe_ex1 PySem.F.excBase_ValueError T.xC T.gC T.kC hg ha hs hdb) fun σ H Q h => by
    obtain ⟨B, n, ρ, Q0, W0, R, hm, hq, hw⟩ := h
    refine rd_i (m := n) R hm (fun y v H1 h1 e1 R1 r1 => ?_) hw
    intro a na
    have gw : Gw H1 (upd H1 a (ExO (.ref C) a none)) := Gw.new na
    exact hq _ _ _ h1 (e1.trans gw.kp) (gw.src R1.ok.src) (.exc0 (hct ▸ T.ct) upd_same (nB R1.ok.dom na))
theorem ce_exI (hct : f.g.ct = ct) (T : ErrI X.K X.mg ct x C fI) (F1 : FnOk X.prog X.w X.K X.mg X.base (L2.CX X.prog X.w) k fI fd ps (spEx names.length C (mkF names))) (hr : Room (k + 1) X.A) (hb : Binds X.K fd ps []) (hg : Gl X x) (hn0 : names ≠ []) (hn : names.length ≤ 1000) (ha : CA f X W ca (e :: es) mas)
    (hdb : (x == ("__debug__" : Str)) = false := by decide) (he : starEach (e :: es) X.env = (false, eval e X.env) :: starEach es X.env := by rfl) (hpl : (backTo pos (starEach es X.env)).any (·.1) = false := by rfl) : CE f X W ca (.Call (.Name x p) (e :: es) [] pos) (mExI x names mas) :=
  PE.imp (pe_oexV T.ox T.iC T.tI F1 hr hb hg T.gC ha hdb he hpl) fun σ H Q h => by
    obtain ⟨B, n, ρ, Q0, W0, R, hm, hq, hw⟩ := h
    refine ra_i (m := n) R hm (fun ds vs H1 h1 e1 R1 r1 => ?_) hw
    have hlv : vs.length = names.length := by rw [r1.length]; exact h1.1
    refine ⟨by omega, fun a na => ex_fits (R := fun a d fs Hx => Q (.ref a) (upd Hx a (ExO (.ref C) a (some d)))) hlv (fun a d na nd hda => ?_) na⟩
    have gw : Gw H1 (upd H1 d (.xd (mkF names vs))) := Gw.new nd
    have na' : (upd H1 d (.xd (mkF names vs))) a = none := by rw [upd_ne (Ne.symm hda)]; exact na
    have gw2 : Gw (upd H1 d (.xd (mkF names vs))) (upd (upd H1 d (.xd (mkF names vs))) a (ExO (.ref C) a (some d))) := Gw.new na'
    have g3 := gw.trans gw2
    exact hq _ _ _ h1.2 (e1.trans g3.kp) (g3.src R1.ok.src) (.exc1 (hct ▸ T.ct) upd_same (nB R1.ok.dom na) (by rw [upd_ne hda]; exact upd_same) (nB R1.ok.dom nd) ((repsF_rev (repsF_zip names r1)).move fun b o h nb => ⟨g3 _ _ h, nb⟩) (mkF_ne h1.1 hn0))
theorem cs_raiseI (hct : f.g.ct = ct) (hc : X.calm = true) (tk : Takes X W) (T : ErrI X.K X.mg ct x C fI) (F1 : FnOk X.prog X.w X.K X.mg X.base (L2.CX X.prog X.w) k fI fd ps (spEx names.length C (mkF names))) (hr : Room (k + 1) X.A) (hb : Binds X.K fd ps []) (hg : Gl X x) (hn0 : names ≠ []) (hn : names.length ≤ 1000) (ha : CA f X W ca (e :: es) mas)
    (hdb : (x == ("__debug__" : Str)) = false := by decide) (he : starEach (e :: es) X.env = (false, eval e X.env) :: starEach es X.env := by rfl) (hpl : (backTo cpos (starEach es X.env)).any (·.1) = false := by rfl) : CS f X W ca (.Raise (some (.Call (.Name x p) (e :: es) [] cpos)) none pos) (mRaiseI x names mas) :=
  PS.imp (ps_raise hc tk (pmk_oex T.ox T.iC T.tI F1 hr hb .nil (fun pins σ H s e s' I h => by obtain ⟨_, _, _, _, _, _, _, _, _, _, _, _, z⟩ := h; exact z.elim) hg T.gC ha hdb he hpl)) fun De σ H h => by
    obtain ⟨B, n, ρ, E, R, hm, hn', hr', hb', hc', hx⟩ := h
    refine ra_i (m := n) R hm (fun ds vs H1 h1 e1 R1 r1 => ?_) (fun x cls dd H' q e s er => hx B x cls dd σ H' ρ q (R.kp e s) er)
    have hlv : vs.length = names.length := by rw [r1.length]; exact h1.1
    refine ⟨by omega, fun a na => ex_fits (R := fun a d fs Hx => W (.ref C) (some d) σ Hx) hlv (fun a d na nd hda => ?_) na⟩
    have gw : Gw H1 (upd H1 d (.xd (mkF names vs))) := Gw.new nd
    exact hx B _ _ _ σ _ ρ h1.2 (R1.kp gw.kp (gw.src R1.ok.src)) ⟨C, hct ▸ T.ct, rfl, .inr ⟨d, _, rfl, upd_same, nB R1.ok.dom nd, (repsF_rev (repsF_zip names r1)).move fun b o h nb => ⟨gw _ _ h, nb⟩, mkF_ne h1.1 hn0⟩⟩
theorem ce_xf (hct : f.g.ct = ct) (T : OXf X.K ct cs n) (ha : CE f X W ca a ma) (hab : attributeBase a n X.env (eval a X.env) = eval a X.env := by rfl) : CE f X W ca (.Attribute a n pos) (mUn (dXf cs n) ma) :=
  PE.imp (pe_xfv ha hab) fun σ H Q h => by
    obtain ⟨B, n, ρ, Q0, W0, R, hm, hq, hw⟩ := h
    refine rd_i (m := n) R hm (fun x v H1 h1 e1 R1 r1 => ?_) hw
    cases r1 with
    | exc1 e h2 n2 h3 n3 rs q =>
      obtain ⟨t1, t2⟩ := T _ h1.1 _ (hct ▸ e)
      obtain ⟨v', d', l, r', q'⟩ := fldD_get rs h1.2
      exact ⟨_, _, _, _, _, rfl, h2, h3, t1, t2, l, hq _ _ H1 q' e1 R1.ok.src r'⟩
    | exc0 e h2 n2 => exact h1.2.elim
    | _ => exact h1.elim
end
end Hm
set_option Elab.async false
set_option linter.all false
set_option maxRecDepth 100000
set_option maxHeartbeats 2000000
namespace Hm
open PySem L2 PySem.Spec PyProof.Rows NdefX
/-- the facts of an __init__ that begins with super().__init__('..') -/
structure DxI (P : Program) (K : PySem.W.Frag) (mg : Str → Option Value) (C fa : Addr) (fd : FuncData) (ps : List Str) (st : Stmt) (qual : Str) : Prop where
  ex : ∃ (cc ca : Addr) (doc pm ctv oc ccl : Value) (od cdd : Option Addr) (osl ccs : Array (Option Value)) (vs0 : Array Value) (file : Str) (tf : Tok),
    fd = NF.fd ⟨"__init__", qual, defArgs st, defBody st, defScope st, [(("__class__" : Str), cc)], ca⟩ doc pm ctv ∧ K.lookup fa = some ⟨oc, od, .func fd, osl⟩ ∧ PySem.W.codeIn K (.ref ca) qual = true ∧ SupC K mg C cc ∧
    K.lookup ca = some ⟨ccl, cdd, .fields vs0, ccs⟩ ∧ vs0[2]? = some (.str file tf) ∧ ((P.main.file : Str) == file) = true
  b : Binds K fd ps []
section
variable {P : Program} {w : World} {K : PySem.W.Frag} {mg : Str → Option Value} {base : Heap} {fa C : Addr} {fd : FuncData} {N ps : List Str} {st : Stmt} {qual m : Str} {ar : Arg} {j : Nat} {p0 p1 p2 p3 p4 p5 : Pos} {rest : List Stmt} {f1 f2 : Str} {k : Nat}
/-- one field -/
theorem fn_ex1 {pl : Env → Sem Bool} (D : DxI P K mg C fa fd ps st qual) (hps : ps.length = 2) (S : NScope N ps ["__class__"] (defScope st)) (hno : PySem.W.findIn K (.ref C) f1 = some none)
    (hp : ((defArgs st).posonlyargs ++ (defArgs st).args).head? = some ar) (hN : N[0]? = some ar.arg) (hv : (defScope st).names.lookup ar.arg = some .local)
    (hks : (defScope st).names.lookup ("super" : Str) = some .globalImplicit) (hkc : (defScope st).names.lookup ("__class__" : Str) = some .free) (htop : (P.main.scope.names.lookup ("super" : Str)).isSome = false)
    (hbody : defBody st = .Expr (.Call (.Attribute (.Call (.Name "super" p0) [] [] p1) "__init__" p2) [.Constant (.str m) j p5] [] p3) p4 :: rest)
    (he : ∀ env : Env, eval (.Call (.Attribute (.Call (.Name "super" p0) [] [] p1) "__init__" p2) [.Constant (.str m) j p5] [] p3) env = (do
      let ov ← attributeBase (.Call (.Name "super" p0) [] [] p1) "__init__" env (eval (.Call (.Name "super" p0) [] [] p1) env)
      standAt p2.atName
      let (f', first) ← holding [ov] (getMethod ov "__init__" (pl env))
      callWith p3 f' first (backTo p3 (starEach [.Constant (.str m) j p5] env)) []))
    (hi : ∀ (cc ca f L : Addr), interactive (envF ⟨"__init__", qual, defArgs st, defBody st, defScope st, [(("__class__" : Str), cc)], ca⟩ f L) = false) (hs : ∀ env : Env, swapsWith (.Call (.Attribute (.Call (.Name "super" p0) [] [] p1) "__init__" p2) [.Constant (.str m) j p5] [] p3) none p4.line env = pure false)
    (body : ∀ (cc ca : Addr) (A : Around) (outer : List Env) (s : Shared) (H : Hp) (E : XK), PSs (ncx (L2.CX P w) P w K mg base N ⟨"__init__", qual, defArgs st, defBody st, defScope st, [(("__class__" : Str), cc)], ca⟩ fa A outer s H E) rest (tOst K f1 (tVar 0) (tVar 1))) :
    FnOk P w K mg base (L2.CX P w) (k + 1) fa fd ps (spEx 1 C (mkF [f1])) := by
  obtain ⟨cc, ca, doc, pm, ctv, oc, ccl, od, cdd, osl, ccs, vs0, file, tf, rfl, lk, hcd, U, hcode, hvs, hfile⟩ := D.ex
  refine fn_super (F := ⟨"__init__", qual, defArgs st, defBody st, defScope st, [(("__class__" : Str), cc)], ca⟩) (pl := pl) lk hcd S U rfl (fun vs H Q E h => ?_) (fun vs H Q E h => ?_) hp hN hv hcode hvs hfile hks hkc htop hbody (fun L => he _) (fun L => hi _ _ _ _) (fun L => hs _) (fun A outer s H vs Q E hr h => ?_)
  · obtain ⟨a, us, rfl, hl, _⟩ := h
    rw [List.length_cons, hl, hps]
  · obtain ⟨a, us, rfl, hl, ea, _⟩ := h
    exact ⟨a, us, rfl, ea⟩
  · obtain ⟨a, us, rfl, hl, ea, q⟩ := h
    match us, hl with
    | [v], _ => exact ⟨_, body cc ca A outer s H E, v, rfl, .ref a, rfl, a, C, rfl, U.ox, hno, .inl ⟨ea, fun dx n ne => q dx n ne⟩⟩
/-- two fields -/
theorem fn_ex2 {pl : Env → Sem Bool} (D : DxI P K mg C fa fd ps st qual) (hps : ps.length = 3) (S : NScope N ps ["__class__"] (defScope st)) (hno : PySem.W.findIn K (.ref C) f1 = some none) (hno2 : PySem.W.findIn K (.ref C) f2 = some none)
    (hp : ((defArgs st).posonlyargs ++ (defArgs st).args).head? = some ar) (hN : N[0]? = some ar.arg) (hv : (defScope st).names.lookup ar.arg = some .local)
    (hks : (defScope st).names.lookup ("super" : Str) = some .globalImplicit) (hkc : (defScope st).names.lookup ("__class__" : Str) = some .free) (htop : (P.main.scope.names.lookup ("super" : Str)).isSome = false)
    (hbody : defBody st = .Expr (.Call (.Attribute (.Call (.Name "super" p0) [] [] p1) "__init__" p2) [.Constant (.str m) j p5] [] p3) p4 :: rest)
    (he : ∀ env : Env, eval (.Call (.Attribute (.Call (.Name "super" p0) [] [] p1) "__init__" p2) [.Constant (.str m) j p5] [] p3) env = (do
      let ov ← attributeBase (.Call (.Name "super" p0) [] [] p1) "__init__" env (eval (.Call (.Name "super" p0) [] [] p1) env)
      standAt p2.atName
      let (f', first) ← holding [ov] (getMethod ov "__init__" (pl env))
      callWith p3 f' first (backTo p3 (starEach [.Constant (.str m) j p5] env)) []))
    (hi : ∀ (cc ca f L : Addr), interactive (envF ⟨"__init__", qual, defArgs st, defBody st, defScope st, [(("__class__" : Str), cc)], ca⟩ f L) = false) (hs : ∀ env : Env, swapsWith (.Call (.Attribute (.Call (.Name "super" p0) [] [] p1) "__init__" p2) [.Constant (.str m) j p5] [] p3) none p4.line env = pure false)
    (body : ∀ (cc ca : Addr) (A : Around) (outer : List Env) (s : Shared) (H : Hp) (E : XK), PSs (ncx (L2.CX P w) P w K mg base N ⟨"__init__", qual, defArgs st, defBody st, defScope st, [(("__class__" : Str), cc)], ca⟩ fa A outer s H E) rest (tSeq (tOst K f1 (tVar 0) (tVar 1)) (tOst K f2 (tVar 0) (tVar 2)))) :
    FnOk P w K mg base (L2.CX P w) (k + 1) fa fd ps (spEx 2 C (mkF [f1, f2])) := by
  obtain ⟨cc, ca, doc, pm, ctv, oc, ccl, od, cdd, osl, ccs, vs0, file, tf, rfl, lk, hcd, U, hcode, hvs, hfile⟩ := D.ex
  refine fn_super (F := ⟨"__init__", qual, defArgs st, defBody st, defScope st, [(("__class__" : Str), cc)], ca⟩) (pl := pl) lk hcd S U rfl (fun vs H Q E h => ?_) (fun vs H Q E h => ?_) hp hN hv hcode hvs hfile hks hkc htop hbody (fun L => he _) (fun L => hi _ _ _ _) (fun L => hs _) (fun A outer s H vs Q E hr h => ?_)
  · obtain ⟨a, us, rfl, hl, _⟩ := h
    rw [List.length_cons, hl, hps]
  · obtain ⟨a, us, rfl, hl, ea, _⟩ := h
    exact ⟨a, us, rfl, ea⟩
  · obtain ⟨a, us, rfl, hl, ea, q⟩ := h
    match us, hl with
    | [v, u], _ =>
      refine ⟨_, body cc ca A outer s H E, v, rfl, .ref a, rfl, a, C, rfl, U.ox, hno, .inl ⟨ea, fun dx n ne => ?_⟩⟩
      refine ⟨u, rfl, .ref a, rfl, a, C, rfl, U.ox, hno2, .inr ⟨dx, [(f1, v)], upd_same, by rw [upd_ne ne, upd_same], by simp, ?_⟩⟩
      have e : upd (upd (upd H dx (exd dx [(f1, v)])) a (exo a C (some dx))) dx (exd dx [(f2, u), (f1, v)]) = upd (upd H dx (exd dx (mkF [f1, f2] [v, u]))) a (exo a C (some dx)) := by
        funext b
        by_cases h1 : b = dx
        · subst h1
          rw [upd_same, upd_ne ne, upd_same]; rfl
        · rw [upd_ne h1]
          by_cases h2 : b = a
          · rw [h2, upd_same, upd_same]
          · rw [upd_ne h2, upd_ne h2, upd_ne h1, upd_ne h1]
      rw [e]
      exact q dx n ne
end
section
variable {f : FrC} {X : Cx} {W : WX} {ca : Nat} {a : Expr} {ma : ME} {pos : Pos}
theorem ce_isyB {x : Str} {T : String} {p p2 : Pos} {ct : Str → Option Addr} {K : PySem.W.Frag} {s : Str → Bool} (hct : f.g.ct = ct) (hKK : X.K = K) (hall : ∀ c C, ct c = some C → ExcC K C ∧ PySem.W.kitOne K (.ref C) (.type T) = some (s c))
    (hg : Gl X "isinstance") (hm : X.mg "isinstance" = none) (hg2 : Gl X x) (hm2 : X.mg x = none) (hv2 : bootBuiltins x = some (.type T)) (ha : CE f X W ca a ma)
    (hn : x ≠ "__name__" := by decide) (hdb : (x == ("__debug__" : Str)) = false := by decide) (he : starEach [a, .Name x p2] X.env = (false, eval a X.env) :: starEach [.Name x p2] X.env := by rfl) (he2 : starEach [.Name x p2] X.env = (false, eval (.Name x p2) X.env) :: starEach [] X.env := by rfl)
    (hpl : (backTo pos (starEach [.Name x p2] X.env)).any (·.1) = false := by rfl) : CE f X W ca (.Call (.Name "isinstance" p) [a, .Name x p2] [] pos) (mUn (dIsy s) ma) := by
  refine PE.imp (pe_callB (CallR.or (call_isx (cv := .type T)) (call_isy (cv := .type T))) hg hm (by decide +kernel) (pa_cons ha (pa_cons (pe_bltn hg2 hm2 hv2 (show RelV (.ty T) (.type T) from rfl) hn hdb) pa_nil he2) he) (by decide) (by decide) he hpl) fun σ H Q h => ?_
  obtain ⟨B, n, ρ, Q0, W0, R, hm, hq, hw⟩ := h
  refine rd_i (m := n) R hm (fun y v H1 h1 e1 R1 r1 => ?_) hw
  cases r1 with
  | exc0 e1' h2 n2 =>
    obtain ⟨h3, h4⟩ := hall _ _ (hct ▸ e1')
    subst hKK
    exact .inl ⟨_, _, _, _, rfl, h2, h3, (fun u r => r), h4, hq _ _ H1 h1 e1 R1.ok.src (.bl _)⟩
  | exc1 e1' h2 n2 h3' n3 r3 q3 =>
    obtain ⟨h3, h4⟩ := hall _ _ (hct ▸ e1')
    subst hKK
    exact .inr ⟨_, _, _, _, _, _, rfl, h2, h3', h3, (fun u r => r), h4, hq _ _ H1 h1 e1 R1.ok.src (.bl _)⟩
  | _ => exact h1.elim
/-- a dict's display as a datum -/
def mDsp (m : List (ME × ME)) : ME := fun ρ Q W => mPairs m ρ (fun ds => ds.length ≤ 15 ∧ Q (.dct (mergeD [] ds))) W
theorem ce_dsp {ks : List (Option Expr)} {vs : List Expr} {m : List (ME × ME)} (he : CPs f X W ca pos ks vs m) (hall : ks.all (·.isSome) = true := by rfl) (hlen : ks.length = vs.length := by rfl) (hne : ks ≠ [] := by intro z; cases z) (h15 : ks.length ≤ 15 := by decide) : CE f X W ca (.Dict ks vs pos) (mDsp m) := by
  obtain ⟨trs, h1, h2⟩ := he
  refine PE.imp (pe_disp h1 hall hlen hne h15) fun σ H Q h => ?_
  obtain ⟨B, n, ρ, Q0, W0, R, hm, hq, hw⟩ := h
  intro p hp
  have R1 : Rel f (fun a => B a ∨ a = p) σ (upd H p (.dK [])) ρ (n + ca) := R.hide hp
  have h0 := R.ok.h0 hp
  have ns := R.ok.nS h0
  have g1 : Kp f.g H (upd H p (.dK [])) := (Gw.new hp).kp
  refine h2 _ _ _ ⟨_, n, ρ, _, _, R1, hm, fun ds vs H' q e s r => ?_, fun y cls dd H' q e s er => hw y cls dd H' q (g1.trans e) s ?_⟩
  · have hp' : H' p = some (.dK []) := e p _ ns upd_same
    have R2 := R1.kp e s
    refine ⟨hp', vs, rfl, by rw [r.length]; exact q.1, ?_⟩
    have hB : (fun a => B a ∨ a = p) p := .inr rfl
    have ok2 := R2.ok.upd (o := .dK (mergeK [] vs)) hB h0
    refine hq _ _ _ q.2 (fun a o ni ha => ?_) ok2.src (.dct upd_same (nB R.ok.dom hp) (((RepsK.merge r .nil).upd hB).move fun b o h nb => ⟨h, fun z => nb (.inl z)⟩))
    have hap : a ≠ p := ne_of_none ha hp
    rw [upd_ne hap]
    exact e a o ni (by rw [upd_ne hap]; exact ha)
  · obtain ⟨C, e1, e2, e3⟩ := er
    refine ⟨C, e1, e2, ?_⟩
    rcases e3 with e3 | ⟨d, kvs, z1, z2, z3, z4, z5⟩
    · exact .inl e3
    · exact .inr ⟨d, kvs, z1, z2, fun z => z3 (.inl z), z4.move fun a o h nb => ⟨h, fun z => nb (.inl z)⟩, z5⟩
end
end Hm

set_option Elab.async false
set_option linter.all false
set_option maxRecDepth 100000
set_option maxHeartbeats 400000
namespace Hm
open PySem L2
/-! words for instances -/
section
variable {ρ : Rho} {Q : DK} {W : XKD} {cn cn2 c f : Str} {fs : List (Str × D)} {cs : List Str} {fn : MF} {a b : ME} {as : MA} {i : Int} {k : Bool} {x : Str} {xs : List D} {kvs : List (Key × D)}
@[simp] theorem mUnO_eq : mUnO cn fn a ρ Q W = a ρ (fun x => isO cn x ∧ fn [x] Q W) W := Eq.trans rfl rfl
@[simp] theorem mBiOO_eq : mBiOO cn cn2 fn a b ρ Q W = a ρ (fun x => b ρ (fun y => isO cn x ∧ isO cn2 y ∧ fn [x, y] Q W) W) W := Eq.trans rfl rfl
@[simp] theorem mIxO_eq : mIxO cn fn a b ρ Q W = a ρ (fun x => b ρ (fun y => isO cn x ∧ fn [x, y] Q W) W) W := Eq.trans rfl rfl
@[simp] theorem mInO_eq : mInO cn fn a b ρ Q W = a ρ (fun y => b ρ (fun x => isO cn x ∧ fn [x, y] (fun r => asB r fun k => Q (.bl k)) W) W) W := Eq.trans rfl rfl
@[simp] theorem mEqO_eq : mEqO cs cn fn a b ρ Q W = a ρ (fun x => b ρ (fun y => isO cn x ∧ tyO cs y = true ∧ fn [x, y] Q W) W) W := Eq.trans rfl rfl
@[simp] theorem mNeO_eq : mNeO cs cn fn a b ρ Q W = a ρ (fun x => b ρ (fun y => isO cn x ∧ tyO cs y = true ∧ fn [x, y] (fun r => asB r fun k => Q (.bl (!k))) W) W) W := Eq.trans rfl rfl
@[simp] theorem mCallO_eq : mCallO cn fn a as ρ Q W = a ρ (fun x => isO cn x ∧ as ρ (fun xs => fn (x :: xs) Q W) W) W := Eq.trans rfl rfl
@[simp] theorem mProp_eq : mProp cn fn a ρ Q W = a ρ (fun x => isO cn x ∧ fn [x] Q fun _ => False) W := Eq.trans rfl rfl
@[simp] theorem mInit_eq {chk e : ME} {ds : List D} : mInit cn f chk e ds Q W = (ds.length = 1 ∧ chk (.un :: ds.map Sl.dat) (fun _ => e (.un :: ds.map Sl.dat) (fun d => Q (.obj cn [(f, d)])) W) W) := Eq.trans rfl rfl
@[simp] theorem isO_obj : isO cn (.obj c fs) = (c = cn) := Eq.trans rfl rfl
@[simp] theorem isOb_obj : isOb cn (.obj c fs) = decide (c = cn) := Eq.trans rfl rfl
@[simp] theorem isOb_non : isOb cn .non = false := Eq.trans rfl rfl
@[simp] theorem isOb_bl : isOb cn (.bl k) = false := Eq.trans rfl rfl
@[simp] theorem isOb_int : isOb cn (.int i) = false := Eq.trans rfl rfl
@[simp] theorem isOb_str : isOb cn (.str x) = false := Eq.trans rfl rfl
@[simp] theorem isOb_tup : isOb cn (.tup xs) = false := Eq.trans rfl rfl
@[simp] theorem isOb_lst : isOb cn (.lst xs) = false := Eq.trans rfl rfl
@[simp] theorem isOb_dct : isOb cn (.dct kvs) = false := Eq.trans rfl rfl
@[simp] theorem tyO_obj : tyO cs (.obj c fs) = decide (c ∈ cs) := Eq.trans rfl rfl
@[simp] theorem tyO_non : tyO cs .non = true := Eq.trans rfl rfl
@[simp] theorem tyO_bl : tyO cs (.bl k) = true := Eq.trans rfl rfl
@[simp] theorem tyO_int : tyO cs (.int i) = true := Eq.trans rfl rfl
@[simp] theorem tyO_str : tyO cs (.str x) = true := Eq.trans rfl rfl
@[simp] theorem tyO_tup : tyO cs (.tup xs) = true := Eq.trans rfl rfl
@[simp] theorem tyO_lst : tyO cs (.lst xs) = true := Eq.trans rfl rfl
@[simp] theorem tyO_dct : tyO cs (.dct kvs) = true := Eq.trans rfl rfl
@[simp] theorem fldD_cons {d : D} {r : List (Str × D)} : fldD f ((c, d) :: r) Q = if f = c then Q d else fldD f r Q := Eq.trans rfl rfl
@[simp] theorem dFld_obj : dFld cs f (.obj c fs) Q = (c ∈ cs ∧ fldD f fs Q) := Eq.trans rfl rfl
@[simp] theorem dIso_eq {d : D} : dIso cs cn d Q = (tyO cs d = true ∧ Q (.bl (isOb cn d))) := Eq.trans rfl rfl
@[simp] theorem mAlt_eq : mAlt a b ρ Q W = (a ρ Q W ∨ b ρ Q W) := Eq.trans rfl rfl
@[simp] theorem mMeth_eq : mMeth cn f fn a as ρ Q W = a ρ (fun x => isO cn x ∧ noF f x = true ∧ as ρ (fun xs => fn (x :: xs) Q W) W) W := Eq.trans rfl rfl
@[simp] theorem noF_obj : noF f (.obj c fs) = fs.all (fun kv => !decide (f = kv.1)) := Eq.trans rfl rfl
@[simp] theorem dInE_l {neg : Bool} {z : D} : dInE neg z (.lst xs) Q = (z.okE = true ∧ (D.lst xs).okE = true ∧ Q (.bl (if neg then !(xs.any fun y => y.eqv z) else xs.any fun y => y.eqv z))) := Eq.trans rfl rfl
/-! statement by statement -/
theorem stI {A B : MS} {E : DEnds} (ρ1 : Rho) (h : ∀ k : Rho → Prop, k ρ1 → A ρ { E with nx := k }) (hb : B ρ1 E) : mSeq A B ρ E := h _ hb
theorem stP {A B : MS} {E : DEnds} (P : Rho → Prop) (h : ∀ k : Rho → Prop, (∀ ρ1, P ρ1 → k ρ1) → A ρ { E with nx := k }) (hb : ∀ ρ1, P ρ1 → B ρ1 E) : mSeq A B ρ E := h _ hb
theorem stF {A B : MS} {E : DEnds} (h : ∀ k : Rho → Prop, A ρ { E with nx := k }) : mSeq A B ρ E := h _
end
end Hm
set_option Elab.async false
set_option linter.all false
set_option maxRecDepth 100000
set_option maxHeartbeats 2000000
namespace Hm
open PySem L2 PySem.Spec PyProof.Rows
/-! ### an instance with flat fields that its methods change: a reader of a text -/
abbrev SX' (l : List Nat) : Str := ⟨l.toArray⟩
def kR (l : List Nat) (n : Nat) : List (Str × V) := [("text", .str (SX' l)), ("at", .int (n : Int))]
def isDg (c : Nat) : Bool := decide (48 ≤ c ∧ c ≤ 57)
def runD (r : List Nat) : List Nat := r.takeWhile isDg
def runM (r : List Nat) : Option Nat → List Nat
  | none => runD r
  | some m => (runD r).take m
/-- groups: a comma and three digits, again and again; the digits and how many signs, or where it is wrong -/
def grpF : Nat → List Nat → List Nat × Nat ⊕ Nat
  | 0, _ => .inl ([], 0)
  | k + 1, r => if r.head? = some 44 then
      (if (runM (r.drop 1) (some 3)).length < 3 then .inr (1 + (runM (r.drop 1) (some 3)).length)
       else match grpF k (r.drop 4) with
        | .inl (ds, j) => .inl (runM (r.drop 1) (some 3) ++ ds, j + 4)
        | .inr j => .inr (j + 4))
    else .inl ([], 0)
def frontF (r : List Nat) : List Nat × Nat ⊕ Nat :=
  if r.head? = some 48 then .inl ([48], 1)
  else if (runD r).length < 1 then .inr 0
  else if (runD r).length ≤ 3 then match grpF r.length (r.drop (runD r).length) with
    | .inl (ds, j) => .inl (runD r ++ ds, (runD r).length + j)
    | .inr j => .inr ((runD r).length + j)
  else .inl (runD r, (runD r).length)
abbrev RM := List Nat → Nat → List V → (V → Nat → Prop) → (Nat → Prop) → Prop
def rdMost : Nat := 20000
def spR (C Ce : Addr) (k : Nat) (m : RM) : Sp := fun vs H Q E => ∃ a dx l n us Q0 W0, vs = .ref a :: us ∧ us.length = k ∧ H a = some (.ins C dx (kR l n)) ∧ n ≤ l.length ∧ l.length ≤ rdMost ∧ m l n us Q0 W0 ∧
  (∀ v j, Q0 v j → Q v (upd H a (.ins C dx (kR l j)))) ∧ (∀ j q, W0 q → ∀ d, upd H a (.ins C dx (kR l j)) d = none → E (.ref Ce) (some d) (upd (upd H a (.ins C dx (kR l j))) d (.xd [("at", .int (q : Nat))])))
def spRI (C : Addr) : Sp := fun vs H Q _ => ∃ x dx l, vs = [.ref x, .str (SX' l)] ∧ H x = some (.ins C dx []) ∧ Q .non (upd H x (.ins C dx (kR l 0)))
def r_sign : RM := fun l n us Q W => Q (.str (SX' ((l.drop n).take 1))) n
def r_fail : RM := fun l n us Q W => W n
def r_take : RM := fun l n us Q W => ∃ z, us = [.str (SX' z)] ∧ match (l.drop n).head? with
  | some c => if c ∈ z then Q (.bl true) (n + 1) else Q (.bl false) n
  | none => Q (.bl false) n
def mostV : Option Nat → V
  | none => .non
  | some m => .int (m : Nat)
def r_digits : RM := fun l n us Q W => ∃ (least : Nat) (most : Option Nat), us = [.int (least : Nat), mostV most] ∧
  if (runM (l.drop n) most).length < least then W (n + (runM (l.drop n) most).length) else Q (.str (SX' (runM (l.drop n) most))) (n + (runM (l.drop n) most).length)
def r_front : RM := fun l n us Q W => match frontF (l.drop n) with
  | .inl (ds, j) => Q (.str (SX' ds)) (n + j)
  | .inr j => W (n + j)
theorem upd_self {H : Hp} {a : Addr} {o : HO} (h : H a = some o) : upd H a o = H := by
  funext b
  by_cases e : b = a
  · rw [e, upd_same, h]
  · rw [upd_ne e]
theorem kR_text {l : List Nat} {n : Nat} : (kR l n).lookup ("text" : Str) = some (V.str (SX' l)) := by
  unfold kR
  rw [List.lookup_cons, beq_self_eq_true]
theorem kR_at {l : List Nat} {n : Nat} : (kR l n).lookup ("at" : Str) = some (V.int (n : Int)) := by
  unfold kR
  rw [List.lookup_cons, show (("at" : Str) == "text") = false by decide, List.lookup_cons, beq_self_eq_true]
theorem kR_no {l : List Nat} {n : Nat} {x : Str} (h1 : (x == ("text" : Str)) = false) (h2 : (x == ("at" : Str)) = false) : (kR l n).lookup x = none := by
  unfold kR
  rw [List.lookup_cons, h1, List.lookup_cons, h2]
  rfl
theorem sx_line {l : List Nat} (h : l.length ≤ rdMost) : (SX' l).length ≤ sizeLine := by
  have : (SX' l).length = l.length := by show l.toArray.size = _; simp
  rw [this, sizeLine_eq]
  unfold rdMost at h
  omega
theorem no_out {X : Cx} : Passes (L2.CX X.prog X.w) X (fun _ _ _ => False) := fun pins σ H s e s' I h => by
  obtain ⟨_, _, _, _, _, _, _, _, _, _, _, _, z⟩ := h
  exact z.elim
theorem spR_len {C Ce : Addr} {k : Nat} {m : RM} {vs : List V} {H : Hp} {Q : VK} {E : XK} (h : spR C Ce k m vs H Q E) : vs.length = k + 1 := by
  obtain ⟨a, dx, l, n, us, Q0, W0, rfl, e, _⟩ := h
  rw [List.length_cons, e]
section
variable {X : Cx} {CX : CXT} {W : WX} {k : Nat} {fa C fI : Addr} {fd : FuncData} {ps names : List Str} {sp : Sp} {nm x : Str} {Es : L2.St → XK} {e o : Expr} {es : List Expr} {p cpos pos apos : Pos} {ta : TE} {t : TA}
/-- o.m(), errors at these slots -/
theorem pe_methS0 {pl : Sem Bool} (he : PE X o ta) (c : Cls X.K C) (hm : Meth X.K C nm fa) (F : FnOk X.prog X.w X.K X.mg X.base CX k fa fd ps sp) (hr : Room k X.A) (hb : Binds X.K fd ps []) (hx : ∀ σ, PassesAt CX X σ (Es σ))
    (ht : eval (.Call (.Attribute o nm apos) [] [] pos) X.env = (do
      let ov ← eval o X.env
      standAt apos.atName
      let (f, first) ← holding [ov] (getMethod ov nm pl)
      callWith pos f first (backTo pos (starEach [] X.env)) (backToKw pos (keywordEach [] X.env))) := by rfl) :
    PE X (.Call (.Attribute o nm apos) [] [] pos) (tMethS C nm sp Es ta tNil) := by
  refine ⟨fun pins s σ H Q I h => ?_⟩
  refine PySem.W.methodCall_KW (pl := pl) (thn (he.run pins s σ H _ I h) fun u s1 ⟨x, H1, I1, rx, a, dx, fs, ex, ea, l, q⟩ => ?_) ht
  subst ex
  obtain rfl : u = Value.ref a := rx
  refine getmeth_ok I1 ea c hm l ?_
  exact PySem.W.callWith_K0 (first := [.ref a]) I1.kIn hm.kp (run_fnS (us := [.ref a]) (vs := [.ref a]) F hr hb (hx σ) I1 (.cons rfl .nil) q)
/-- a reader's method answers: what is left to be shown at the call -/
theorem spR_use {Ce : Addr} {k : Nat} {m : RM} {a dx : Addr} {l : List Nat} {n : Nat} {us : List V} {H0 H : Hp} {Q : VK} {E : XK} (hH : H = upd H0 a (.ins C dx (kR l n))) (hn : n ≤ l.length) (hl : l.length ≤ rdMost) (hk : us.length = k)
    (h : m l n us (fun v j => Q v (upd H0 a (.ins C dx (kR l j)))) (fun q => ∀ j d, upd H0 a (.ins C dx (kR l j)) d = none → E (.ref Ce) (some d) (upd (upd H0 a (.ins C dx (kR l j))) d (.xd [("at", .int (q : Nat))])))) : spR C Ce k m (.ref a :: us) H Q E := by
  subst hH
  refine ⟨a, dx, l, n, us, _, _, rfl, hk, upd_same, hn, hl, h, fun v j q => ?_, fun j q w d hd => ?_⟩
  · rw [upd_upd]; exact q
  · rw [upd_upd] at hd ⊢
    exact w j d hd
section
variable {Ce : Addr} {m : RM} {a dx : Addr} {l : List Nat} {n i j : Nat} {H0 : Hp} {Q : VK} {σ : L2.St} {v u : V}
abbrev OkRm (C Ce a dx : Addr) (H0 : Hp) (m : RM) (l : List Nat) (n : Nat) (us : List V) (Q : VK) (E : XK) : Prop :=
  m l n us (fun v j => Q v (upd H0 a (.ins C dx (kR l j)))) (fun q => ∀ j d, upd H0 a (.ins C dx (kR l j)) d = none → E (.ref Ce) (some d) (upd (upd H0 a (.ins C dx (kR l j))) d (.xd [("at", .int (q : Nat))])))
theorem rd_m0 (h0 : σ[i]? = some (some (.ref a))) (hno : (kR l n).lookup nm = none) (hn : n ≤ l.length) (hl : l.length ≤ rdMost) (h : OkRm C Ce a dx H0 m l n [] Q (Es σ)) :
    tMethS C nm (spR C Ce 0 m) Es (tVar i) tNil σ (upd H0 a (.ins C dx (kR l n))) Q := ⟨_, h0, a, dx, _, rfl, upd_same, hno, spR_use rfl hn hl rfl h⟩
theorem rd_m1 (h0 : σ[i]? = some (some (.ref a))) (hno : (kR l n).lookup nm = none) (hn : n ≤ l.length) (hl : l.length ≤ rdMost) (h : OkRm C Ce a dx H0 m l n [v] Q (Es σ)) :
    tMethS C nm (spR C Ce 1 m) Es (tVar i) (tCons (tC v) tNil) σ (upd H0 a (.ins C dx (kR l n))) Q := ⟨_, h0, a, dx, _, rfl, upd_same, hno, spR_use (us := [v]) rfl hn hl rfl h⟩
theorem rd_m2 (h0 : σ[i]? = some (some (.ref a))) (hno : (kR l n).lookup nm = none) (hn : n ≤ l.length) (hl : l.length ≤ rdMost) (h : OkRm C Ce a dx H0 m l n [v, u] Q (Es σ)) :
    tMethS C nm (spR C Ce 2 m) Es (tVar i) (tCons (tC v) (tCons (tC u) tNil)) σ (upd H0 a (.ins C dx (kR l n))) Q := ⟨_, h0, a, dx, _, rfl, upd_same, hno, spR_use (us := [v, u]) rfl hn hl rfl h⟩
end
end
/-! plain -/
theorem sx'_len {l : List Nat} : (SX' l).length = l.length := by show l.toArray.size = _; simp
theorem cut_sx' {l : List Nat} {lo hi : Option Int} : cutS (SX' l) lo hi = SX' ((l.drop (HT.sIx l.length 0 lo)).take (HT.sIx l.length l.length hi - HT.sIx l.length 0 lo)) := by
  unfold cutS
  rw [sx'_len]
theorem cut_sgn {l : List Nat} {n : Nat} (h : n ≤ l.length) : cutS (SX' l) (some (n : Int)) (some ((n : Int) + 1)) = SX' ((l.drop n).take 1) := by
  have e1 : HT.sIx l.length 0 (some (n : Int)) = n := by rw [HT.sIx_nat]; omega
  have e2 : HT.sIx l.length l.length (some ((n : Int) + 1)) = min (n + 1) l.length := by
    have : ((n : Int) + 1) = ((n + 1 : Nat) : Int) := by omega
    rw [this, HT.sIx_nat]
  rw [cut_sx', e1, e2]
  by_cases c : n + 1 ≤ l.length
  · rw [Nat.min_eq_left c, show n + 1 - n = 1 by omega]
  · rw [Nat.min_eq_right (by omega)]
    have : l.length = n := by omega
    rw [this, Nat.sub_self, List.drop_of_length_le (by omega), List.take_nil, List.take_nil]
theorem sgn_cases {l : List Nat} {n : Nat} : (∃ c, (l.drop n).head? = some c ∧ (l.drop n).take 1 = [c] ∧ n < l.length) ∨ ((l.drop n).head? = none ∧ (l.drop n).take 1 = [] ∧ l.length ≤ n) := by
  cases e : l.drop n with
  | nil => exact .inr ⟨rfl, rfl, List.drop_eq_nil_iff.mp e⟩
  | cons c r => exact .inl ⟨c, rfl, rfl, by
      have := congrArg List.length e
      rw [List.length_drop, List.length_cons] at this
      omega⟩
theorem sx_ne {c : Nat} : SX' [c] ≠ SX' [] := fun h => by
  injection h with h
  simpa using congrArg Array.size h
theorem str_e' : Str.ofString "" = SX' [] := by decide +kernel
theorem sgn_ne {c : Nat} : SX' [c] ≠ SX' [] := sx_ne
theorem runM_nil {o : Option Nat} : runM [] o = [] := by cases o <;> simp [runM, runD]
theorem runM_no {c : Nat} {r : List Nat} {o : Option Nat} (h : isDg c = false) : runM (c :: r) o = [] := by cases o <;> simp [runM, runD, List.takeWhile, h]
theorem runM_zero {r : List Nat} : runM r (some 0) = [] := by simp [runM]
theorem runM_yes {c : Nat} {r : List Nat} (h : isDg c = true) : runM (c :: r) none = c :: runM r none := by simp [runM, runD, List.takeWhile, h]
theorem runM_yes' {c k : Nat} {r : List Nat} (h : isDg c = true) : runM (c :: r) (some (k + 1)) = c :: runM r (some k) := by simp [runM, runD, List.takeWhile, h]
theorem runM_len {r : List Nat} {o : Option Nat} : (runM r o).length ≤ r.length := by
  have h : (runD r).length ≤ r.length := (List.takeWhile_prefix _).length_le
  cases o with
  | none => exact h
  | some m =>
    show ((runD r).take m).length ≤ _
    rw [List.length_take]
    omega
theorem dig_in {c : Nat} : decide (c ∈ (Str.ofString "0123456789").cps.toList) = isDg c := by
  have e : (Str.ofString "0123456789").cps.toList = [48,49,50,51,52,53,54,55,56,57] := by decide +kernel
  rw [e]
  unfold isDg
  refine decide_eq_decide.mpr ?_
  simp
  omega
theorem drop_step {l : List Nat} {n c : Nat} {r : List Nat} (h : l.drop n = c :: r) : l.drop (n + 1) = r := by
  have e : l.drop (n + 1) = (l.drop n).drop 1 := by rw [List.drop_drop]
  rw [e, h]; rfl
section
variable {C Ce a dx : Addr} {l : List Nat} {n i : Nat} {H0 : Hp} {σ : L2.St} {Es : L2.St → XK} {z : Str} {c : Nat}
theorem val_sgn (h0 : σ[i]? = some (some (.ref a))) (hn : n ≤ l.length) (hl : l.length ≤ rdMost) : Val (tMethS C "sign" (spR C Ce 0 r_sign) Es (tVar i) tNil) σ (upd H0 a (.ins C dx (kR l n))) (.str (SX' ((l.drop n).take 1))) :=
  fun Q q => rd_m0 h0 (kR_no (by decide) (by decide)) hn hl q
theorem sgn_emp (hn : n ≤ l.length) : (SX' ((l.drop n).take 1) = Str.ofString "") ↔ ¬ n < l.length := by
  rw [str_e']
  rcases sgn_cases (l := l) (n := n) with ⟨c, h1, h2, h3⟩ | ⟨h1, h2, h3⟩
  · rw [h2]; exact ⟨fun z => (sgn_ne z).elim, fun z => (z h3).elim⟩
  · rw [h2]; exact ⟨fun _ => by omega, fun _ => rfl⟩
theorem ans_sgn_ne (h0 : σ[i]? = some (some (.ref a))) (hn : n ≤ l.length) (hl : l.length ≤ rdMost) :
    Ans (tTest (tOp rNe (tMethS C "sign" (spR C Ce 0 r_sign) Es (tVar i) tNil) (tC (.str (Str.ofString ""))))) σ (upd H0 a (.ins C dx (kR l n))) (decide (n < l.length)) :=
  ans_ne (val_sgn h0 hn hl) val_c rfl (by
    by_cases c : n < l.length
    · rw [decide_eq_true c, decide_eq_false (fun h => (sgn_emp hn).mp (V.str.inj h) c)]; rfl
    · rw [decide_eq_false c, decide_eq_true (congrArg V.str ((sgn_emp hn).mpr c))]; rfl)
theorem ans_sgn_in (h0 : σ[i]? = some (some (.ref a))) (hn : n ≤ l.length) (hl : l.length ≤ rdMost) (hc : (l.drop n).head? = some c) :
    Ans (tTest (tOp rInS (tMethS C "sign" (spR C Ce 0 r_sign) Es (tVar i) tNil) (tC (.str z)))) σ (upd H0 a (.ins C dx (kR l n))) (decide (c ∈ z.cps.toList)) := by
  rcases sgn_cases (l := l) (n := n) with ⟨c', h1, h2, h3⟩ | ⟨h1, h2, h3⟩
  · rw [h1] at hc
    cases hc
    have v := val_sgn (C := C) (Ce := Ce) (Es := Es) (dx := dx) (H0 := H0) h0 hn hl
    rw [h2] at v
    exact ans_in v val_c rfl
  · rw [h1] at hc; cases hc
theorem ans_go {t : TT} {H : Hp} {b : Bool} {Q : Bool → Hp → Prop} (h : Ans t σ H b) (q : Q b H) : t σ H Q := h Q q
theorem and_go {t u : TT} {H : Hp} {b : Bool} {Q : Bool → Hp → Prop} (h : Ans t σ H b) (q : if b = true then u σ H Q else Q false H) : tAnd t u σ H Q := h _ q
theorem ans_sgn_dig (h0 : σ[i]? = some (some (.ref a))) (hn : n ≤ l.length) (hl : l.length ≤ rdMost) :
    Ans (tAnd (tTest (tOp rNe (tMethS C "sign" (spR C Ce 0 r_sign) Es (tVar i) tNil) (tC (.str (Str.ofString ""))))) (tTest (tOp rInS (tMethS C "sign" (spR C Ce 0 r_sign) Es (tVar i) tNil) (tC (.str (Str.ofString "0123456789")))))) σ (upd H0 a (.ins C dx (kR l n)))
      (decide (runM (l.drop n) (some 1) ≠ [])) := fun Q q => by
  have aB := ans_sgn_ne (C := C) (Ce := Ce) (Es := Es) (dx := dx) (H0 := H0) h0 hn hl
  rcases sgn_cases (l := l) (n := n) with ⟨c, h1, h2, h3⟩ | ⟨h1, h2, h3⟩
  · rw [decide_eq_true h3] at aB
    have aC := ans_sgn_in (C := C) (Ce := Ce) (Es := Es) (dx := dx) (H0 := H0) (z := Str.ofString "0123456789") h0 hn hl h1
    rw [dig_in] at aC
    refine aB _ (iteT (aC _ ?_))
    cases e : l.drop n with
    | nil => rw [e] at h1; cases h1
    | cons c' r =>
      rw [e] at h1 q; cases h1
      cases hc : isDg c with
      | true => rw [runM_yes' hc] at q; simpa using q
      | false => rw [runM_no hc] at q; simpa using q
  · rw [decide_eq_false (by omega)] at aB
    refine aB _ (iteF ?_)
    have e : l.drop n = [] := by
      cases e : l.drop n with
      | nil => rfl
      | cons c r => rw [e] at h1; cases h1
    rw [e, runM_nil] at q
    simpa using q
theorem ans_sgn_eq (h0 : σ[i]? = some (some (.ref a))) (hn : n ≤ l.length) (hl : l.length ≤ rdMost) {k : Nat} {y : Str} (hy : y = SX' [k]) :
    Ans (tTest (tOp rEq (tMethS C "sign" (spR C Ce 0 r_sign) Es (tVar i) tNil) (tC (.str y)))) σ (upd H0 a (.ins C dx (kR l n))) (decide ((l.drop n).head? = some k)) :=
  ans_eq (val_sgn h0 hn hl) val_c rfl (by
    subst hy
    refine decide_eq_decide.mpr ?_
    rcases sgn_cases (l := l) (n := n) with ⟨c, h1, h2, h3⟩ | ⟨h1, h2, h3⟩
    · rw [h1, h2]
      constructor
      · intro z
        have z := V.str.inj z
        injection z with z
        have := congrArg Array.toList z
        simp at this
        rw [this]
      · intro z; cases z; rfl
    · rw [h1, h2]
      constructor
      · intro z
        exact (sgn_ne (V.str.inj z).symm).elim
      · intro z; cases z)
end
theorem runM3 {r : List Nat} (h : ¬ (runM r (some 3)).length < 3) : (runM r (some 3)).length = 3 := by
  have : (runM r (some 3)).length ≤ 3 := by
    show ((runD r).take 3).length ≤ 3
    rw [List.length_take]
    omega
  omega
theorem run1_48 {r : List Nat} (h : r.head? = some 48) : runM r (some 1) = [48] := by
  cases r with
  | nil => cases h
  | cons c r => cases h; rw [runM_yes' (by decide), runM_zero]
theorem comma_e : Str.ofString "," = SX' [44] := by decide +kernel
theorem nought_e : Str.ofString "0" = SX' [48] := by decide +kernel
theorem sx'_app {a b : List Nat} : SX' a ++ SX' b = SX' (a ++ b) := by
  show (⟨a.toArray ++ b.toArray⟩ : Str) = _
  simp
/-- a text read: less than nought, the digits ahead of the point and behind it, or where it is wrong -/
def blanks (l : List Nat) : Nat := (l.takeWhile fun c => decide (c = 32)).length
def signAt (l : List Nat) : Nat := if (l.drop (blanks l)).head? = some 45 then blanks l + 1 else if (l.drop (blanks l)).head? = some 43 then blanks l + 1 else blanks l
def endP (l : List Nat) (m : Nat) : List Nat × Nat ⊕ Nat :=
  if (l.drop m).head? = some 46 then
    (if (runM (l.drop (m + 1)) (some 60)).length < 1 then .inr (m + 1 + (runM (l.drop (m + 1)) (some 60)).length)
     else .inl (runM (l.drop (m + 1)) (some 60), m + 1 + (runM (l.drop (m + 1)) (some 60)).length))
  else .inl ([], m)
def readP (l : List Nat) : (Bool × List Nat × List Nat) ⊕ Nat :=
  match frontF (l.drop (signAt l)) with
  | .inr j => .inr (signAt l + j)
  | .inl (ds, j) => match endP l (signAt l + j) with
    | .inr k => .inr k
    | .inl (rest, e) => if e < l.length then .inr e else .inl (decide ((l.drop (blanks l)).head? = some 45), ds, rest)
theorem take1 {l : List Nat} {n c : Nat} {Q : V → Nat → Prop} {W : Nat → Prop} {y : Str} (hy : y = SX' [c]) (q : Q (.bl (decide ((l.drop n).head? = some c))) (if (l.drop n).head? = some c then n + 1 else n)) : r_take l n [.str y] Q W := by
  refine ⟨[c], by rw [hy], ?_⟩
  cases e : (l.drop n).head? with
  | none =>
    rw [e, decide_eq_false (fun z => nomatch z), if_neg (fun z => nomatch z)] at q
    exact q
  | some d =>
    rw [e] at q
    dsimp only
    by_cases h : d = c
    · subst h
      rw [decide_eq_true rfl, if_pos rfl] at q
      rw [if_pos (List.mem_singleton.mpr rfl)]
      exact q
    · rw [decide_eq_false (fun z => h (Option.some.inj z)), if_neg (fun z => h (Option.some.inj z))] at q
      rw [if_neg (fun z => h (List.mem_singleton.mp z))]
      exact q
theorem head_lt {l : List Nat} {n c : Nat} (h : (l.drop n).head? = some c) : n < l.length := by
  cases e2 : l.drop n with
  | nil => rw [e2] at h; cases h
  | cons c r =>
    have := congrArg List.length e2
    rw [List.length_drop, List.length_cons] at this
    omega
theorem grpF_le : ∀ {k : Nat} {r ds : List Nat} {j : Nat}, grpF k r = .inl (ds, j) → j ≤ r.length ∧ ds.length ≤ j
  | 0, r, ds, j, h => by cases h; exact ⟨Nat.zero_le _, Nat.le_refl _⟩
  | k + 1, r, ds, j, h => by
    unfold grpF at h
    by_cases c : r.head? = some 44
    · rw [if_pos c] at h
      by_cases c3 : (runM (r.drop 1) (some 3)).length < 3
      · rw [if_pos c3] at h; cases h
      · rw [if_neg c3] at h
        have e3 := runM3 c3
        have l1 := runM_len (r := r.drop 1) (o := some 3)
        rw [List.length_drop] at l1
        cases e : grpF k (r.drop 4) with
        | inr i => rw [e] at h; cases h
        | inl p =>
          obtain ⟨ds', j'⟩ := p
          rw [e] at h
          cases h
          have := grpF_le e
          rw [List.length_drop] at this
          rw [List.length_append, e3]
          omega
    · rw [if_neg c] at h; cases h; exact ⟨Nat.zero_le _, Nat.le_refl _⟩
theorem frontF_le {r ds : List Nat} {j : Nat} (h : frontF r = .inl (ds, j)) : j ≤ r.length ∧ ds.length ≤ j := by
  unfold frontF at h
  have l0 : (runD r).length ≤ r.length := runM_len (o := none)
  by_cases h0 : r.head? = some 48
  · rw [if_pos h0] at h
    cases h
    cases r with
    | nil => cases h0
    | cons c r => exact ⟨by rw [List.length_cons]; omega, Nat.le_refl _⟩
  rw [if_neg h0] at h
  by_cases h1 : (runD r).length < 1
  · rw [if_pos h1] at h; cases h
  rw [if_neg h1] at h
  by_cases h3 : (runD r).length ≤ 3
  · rw [if_pos h3] at h
    cases e : grpF r.length (r.drop (runD r).length) with
    | inr i => rw [e] at h; cases h
    | inl p =>
      obtain ⟨ds', j'⟩ := p
      rw [e] at h
      cases h
      have := grpF_le e
      rw [List.length_drop] at this
      rw [List.length_append]
      omega
  · rw [if_neg h3] at h
    cases h
    exact ⟨l0, Nat.le_refl _⟩
theorem endP_le {l rest : List Nat} {m e : Nat} (hm : m ≤ l.length) (h : endP l m = .inl (rest, e)) : e ≤ l.length := by
  unfold endP at h
  by_cases c : (l.drop m).head? = some 46
  · rw [if_pos c] at h
    by_cases c1 : (runM (l.drop (m + 1)) (some 60)).length < 1
    · rw [if_pos c1] at h; cases h
    · rw [if_neg c1] at h
      cases h
      have l1 := runM_len (r := l.drop (m + 1)) (o := some 60)
      rw [List.length_drop] at l1
      omega
  · rw [if_neg c] at h; cases h; exact hm
/-- what the reader's statements leave -/
def mReadT (tail : MS) : MS := fun ρ E => match ρ with
  | [.dat (.str z), _, _, _, _, y5, y6] => z.length ≤ rdMost ∧ match readP z.cps.toList with
    | .inl (neg, ds, rest) => tail [.dat (.str z), .un, .dat (.bl neg), .dat (.str (SX' ds)), .dat (.str (SX' rest)), y5, y6] E
    | .inr k => E.ex ρ ⟨"InvalidText", [("at", .int (k : Nat))]⟩
  | _ => False
theorem blank_e : Str.ofString " " = SX' [32] := by decide +kernel
theorem minus_e : Str.ofString "-" = SX' [45] := by decide +kernel
theorem plus_e : Str.ofString "+" = SX' [43] := by decide +kernel
theorem point_e : Str.ofString "." = SX' [46] := by decide +kernel
theorem blanks_step {l : List Nat} {j : Nat} (h : (l.drop j).head? = some 32) : blanks (l.drop j) = 1 + blanks (l.drop (j + 1)) := by
  cases e : l.drop j with
  | nil => rw [e] at h; cases h
  | cons c r =>
    rw [e] at h; cases h
    rw [drop_step e]
    unfold blanks
    simp [List.takeWhile]
    omega
theorem blanks_stop {l : List Nat} {j : Nat} (h : ¬ (l.drop j).head? = some 32) : blanks (l.drop j) = 0 := by
  cases e : l.drop j with
  | nil => rfl
  | cons c r =>
    rw [e] at h
    have hc : c ≠ 32 := fun z => h (by rw [z]; rfl)
    unfold blanks
    simp [List.takeWhile, hc]
theorem blanks_le {l : List Nat} : blanks l ≤ l.length := (List.takeWhile_prefix _).length_le
theorem signAt_le {l : List Nat} : signAt l ≤ l.length := by
  unfold signAt
  by_cases h : (l.drop (blanks l)).head? = some 45
  · rw [if_pos h]; have := head_lt h; omega
  · rw [if_neg h]
    by_cases h : (l.drop (blanks l)).head? = some 43
    · rw [if_pos h]; have := head_lt h; omega
    · rw [if_neg h]; exact blanks_le
section
variable {C Ce a dx : Addr} {l : List Nat} {n : Nat} {H0 : Hp} {σ : L2.St} {Es : L2.St → XK} {D : Ends}
theorem plus_step (h1 : σ[1]? = some (some (.ref a))) (h2 : σ[2]? = some (some (.bl (decide ((l.drop (blanks l)).head? = some 45))))) (hl : l.length ≤ rdMost) (q : D.nx σ (upd H0 a (.ins C dx (kR l (signAt l))))) :
    tIfS (tNot (tTest (tVar 2))) (tDrop (tMethS C "take" (spR C Ce 1 r_take) Es (tVar 1) (tCons (tC (.str (Str.ofString "+"))) tNil))) tNext D σ (upd H0 a (.ins C dx (kR l (if (l.drop (blanks l)).head? = some 45 then blanks l + 1 else blanks l)))) := by
  refine ⟨_, h2, _, rfl, ?_⟩
  unfold signAt at q
  by_cases h : (l.drop (blanks l)).head? = some 45
  · rw [if_pos h] at q
    rw [decide_eq_true h, if_pos h]
    exact iteF q
  · rw [if_neg h] at q
    rw [decide_eq_false h, if_neg h]
    exact iteT (rd_m1 h1 (kR_no (by decide) (by decide)) blanks_le hl (take1 plus_e q))
theorem fin_step (h1 : σ[1]? = some (some (.ref a))) (hn : n ≤ l.length) (hl : l.length ≤ rdMost) (er : n < l.length → ∀ j d, upd H0 a (.ins C dx (kR l j)) d = none → Es σ (.ref Ce) (some d) (upd (upd H0 a (.ins C dx (kR l j))) d (.xd [("at", .int (n : Nat))])))
    (q : ¬ n < l.length → D.nx σ (upd H0 a (.ins C dx (kR l n)))) :
    tIfS (tTest (tOp rNe (tMethS C "sign" (spR C Ce 0 r_sign) Es (tVar 1) tNil) (tC (.str (Str.ofString ""))))) (tDrop (tMethS C "fail" (spR C Ce 0 r_fail) Es (tVar 1) tNil)) tNext D σ (upd H0 a (.ins C dx (kR l n))) := by
  refine ans_sgn_ne h1 hn hl _ ?_
  by_cases h : n < l.length
  · rw [decide_eq_true h]
    exact iteT (rd_m0 h1 (kR_no (by decide) (by decide)) hn hl (fun j d hd => er h j d hd))
  · rw [decide_eq_false h]
    exact iteF (q h)
end
theorem len7 {α : Type} {l : List α} (h : l.length = 7) : ∃ x0 x1 x2 x3 x4 x5 x6, l = [x0, x1, x2, x3, x4, x5, x6] := by
  match l, h with
  | [x0, x1, x2, x3, x4, x5, x6], _ => exact ⟨_, _, _, _, _, _, _, rfl⟩
theorem front_inr {l : List Nat} {n j : Nat} {us : List V} {Q : V → Nat → Prop} {W : Nat → Prop} (e : frontF (l.drop n) = .inr j) (q : W (n + j)) : r_front l n us Q W := by
  unfold r_front
  rw [e]
  exact q
theorem front_inl {l ds : List Nat} {n j : Nat} {us : List V} {Q : V → Nat → Prop} {W : Nat → Prop} (e : frontF (l.drop n) = .inl (ds, j)) (q : Q (.str (SX' ds)) (n + j)) : r_front l n us Q W := by
  unfold r_front
  rw [e]
  exact q
end Hm
set_option Elab.async false
set_option linter.all false
set_option maxRecDepth 100000
set_option maxHeartbeats 2000000
namespace Hm
open PySem L2 PySem.Spec PyProof.Rows
/-! ### texts: one sign in a text, s.index(c), for c in s -/
def dInS (neg : Bool) : D → D → DK → Prop
  | .str x, .str z, Q => ∃ c, x = ⟨#[c]⟩ ∧ Q (.bl (if neg then !decide (c ∈ z.cps.toList) else decide (c ∈ z.cps.toList)))
  | _, _, _ => False
theorem dInS_eq {neg : Bool} {x z : Str} {Q : DK} : dInS neg (.str x) (.str z) Q = ∃ c, x = ⟨#[c]⟩ ∧ Q (.bl (if neg then !decide (c ∈ z.cps.toList) else decide (c ∈ z.cps.toList))) := Eq.trans rfl rfl
def dIdxS : D → D → DK → Prop
  | .str a, .str b, Q => ∃ i rest, Builtin.Str.occurrences a b 0 a.length 1 = i :: rest ∧ Q (.int (i : Nat))
  | _, _, _ => False
theorem dIdxS_eq {a b : Str} {Q : DK} : dIdxS (.str a) (.str b) Q = ∃ i rest, Builtin.Str.occurrences a b 0 a.length 1 = i :: rest ∧ Q (.int (i : Nat)) := Eq.trans rfl rfl
def mIdxS (a b : ME) : ME := fun ρ Q W => a ρ (fun x => asStr x fun z => b ρ (fun y => dIdxS (.str z) y Q) W) W
@[simp] theorem mIdxS_eq (a b : ME) (ρ : Rho) (Q : DK) (W : XKD) : mIdxS a b ρ Q W = a ρ (fun x => asStr x fun z => b ρ (fun y => dIdxS (.str z) y Q) W) W := Eq.trans rfl rfl
def signsD (z : Str) : List D := z.cps.toList.map fun c => .str ⟨#[c]⟩
def mForTx (it : ME) (g : MG) (body : MS) : MS := fun ρ E => it ρ (fun d => asStr d fun z => mForL g body (signsD z) ρ E) (E.ex ρ)
@[simp] theorem mForTx_eq (it : ME) (g : MG) (body : MS) (ρ : Rho) (E : DEnds) : mForTx it g body ρ E = it ρ (fun d => asStr d fun z => mForL g body (signsD z) ρ E) (E.ex ρ) := Eq.trans rfl rfl
section
variable {K : PySem.W.Frag}
theorem od_inS : OpD K rInS (dInS false) := od_plain fun g B H vx vy x y Q0 Q hK rx ry h k => by
  cases rx with
  | str z =>
    cases ry with
    | str i =>
      obtain ⟨c, e, q⟩ := h
      exact ⟨c, i, by rw [e], rfl, k _ _ q (.bl _)⟩
    | _ => exact h.elim
  | _ => exact h.elim
theorem od_notInS : OpD K rNotInS (dInS true) := od_plain fun g B H vx vy x y Q0 Q hK rx ry h k => by
  cases rx with
  | str z =>
    cases ry with
    | str i =>
      obtain ⟨c, e, q⟩ := h
      exact ⟨c, i, by rw [e], rfl, k _ _ q (.bl _)⟩
    | _ => exact h.elim
  | _ => exact h.elim
end
section
variable {f : FrC} {X : Cx} {W : WX} {B : Addr → Prop} {σ : L2.St} {H : Hp} {ρ : Rho} {ms : MS} {n cb ca : Nat} {a b tg : Expr} {ma mb : ME} {body : List Stmt} {pos : Pos}
theorem ce_sindex {apos cpos : Pos} (hK : f.g.K = X.K) (ho : CE f X W ca a ma) (he : CE f X W cb b mb) (hbase : attributeBase a "index" X.env (eval a X.env) = eval a X.env := by rfl)
    (hfew : ((backTo cpos (starEach [b] X.env)).all (fun x => !x.1) && (backToKw cpos (keywordEach [] X.env)).all (fun x => x.1.isSome)
      && decide ([b].length + ([] : List Keyword).length + (if ([] : List Keyword).isEmpty then 0 else 1) < 30)) = true := by rfl)
    (hline : (apos.endLine == cpos.line) = true := by rfl) (hst : starEach [b] X.env = (false, eval b X.env) :: starEach [] X.env := by rfl) (hplain : (backTo cpos (starEach [] X.env)).any (·.1) = false := by rfl) :
    CE f X W (ca + cb) (.Call (.Attribute a "index" apos) [b] [] cpos) (mIdxS ma mb) :=
  PE.imp (pe_bm PySem.F.plainAttrs_str PySem.F.slot_str_index PySem.F.type_str_index mt_sindex ho (pa_cons he pa_nil hst) hbase hfew hline hst hplain) fun σ H Q h => by
    obtain ⟨B, n, ρ, Q0, W0, R, hm, hq, hw⟩ := h
    refine rd_i (m := n + cb) (R.mono (by omega)) hm (fun x v H1 h1 e1 R1 r1 => ?_) fun x cls dd H' q e s er => hw x cls dd H' q e (s.mono (by omega)) er
    cases r1 with
    | str z =>
      refine ⟨rfl, ?_⟩
      refine rd_i (m := n) R1 h1 (fun y u H2 h2 e2 R2 r2 => ?_) fun x cls dd H' q e s er => hw x cls dd H' q (e1.trans e) s er
      cases r2 with
      | str w =>
        obtain ⟨i, rest, o, q⟩ := h2
        exact ⟨z, w, i, rest, rfl, rfl, o, hq _ _ H2 q (e1.trans e2) R2.ok.src (.int _)⟩
      | _ => exact h2.elim
    | _ => exact h1.elim
theorem for_coreTx {De : Ends} {E : DEnds} {t : TG} {g : MG} {L : Nat} {z : Str} (hd : TgDs f t g) (hz : z.cps.size ≤ L) (R : Rel f B σ H ρ (n + L * cb)) (h : mForL g ms (signsD z) ρ E)
    (hn : ∀ B' σ' H' ρ', E.nx ρ' → Rel f B' σ' H' ρ' n → De.nx σ' H') (hr : ∀ d v H', E.rt d → Kp f.g f.H0 H' → SrcOk f.g H' n → Rep f.g f.RB H' v d → De.rt v H')
    (hx : ∀ B' x cls dd σ' H' ρ', E.ex ρ' x → Rel f B' σ' H' ρ' n → ErrAt f.g B' H' cls dd x → W cls dd σ' H') :
    ∃ Wf : Nat → Nat → L2.St → Hp → Prop, (∃ m, Wf 0 m σ H) ∧ ∀ i m σ H, Wf i m σ H →
      ((Its z).stop i H ∧ De.nx σ H) ∨ ((Its z).go i H ∧ ∃ N : L2.St → Hp → Prop, (∀ σ' H', N σ' H' → ∃ m', m' < m ∧ Wf (i + 1) m' σ' H') ∧ ∀ x H', (Its z).yld i H x H' → t x σ H' fun σ2 H2 => RSs f W cb ms { De with nx := N, ct := N, bk := De.nx } σ2 H2) := by
  refine for_it walk_str (fun i σ' H' => ∃ B' ρ', Rel f B' σ' H' ρ' (n + (L - i) * cb) ∧ mForL g ms ((signsD z).drop i) ρ' E)
    ⟨B, ρ, R, h⟩ (fun _ _ _ _ _ => trivial) (fun i x σ' H' H'' hi' hP y => ?_) (fun σ' H' hP => ?_)
  · obtain ⟨B', ρ', R', hf⟩ := hP
    obtain ⟨rfl, c, hc, rfl⟩ := y
    have e : (signsD z).drop i = .str ⟨#[c]⟩ :: (signsD z).drop (i + 1) := by
      refine drop_get ?_
      unfold signsD
      rw [List.getElem?_map]
      have : z.cps.toList[i]? = some c := by rw [Array.getElem?_toList]; exact hc
      rw [this]; rfl
    rw [e] at hf
    exact turn_i (n := n) (k := (L - (i + 1)) * cb) hd (R'.mono (mul_step (by omega))) (.str _) hf hn hr hx fun B2 σ2 H2 ρ2 q2 R2 st => ⟨B2, ρ2, R2, q2⟩
  · obtain ⟨B', ρ', R', hf⟩ := hP
    have e : (signsD z).drop z.cps.size = [] := List.drop_of_length_le (by unfold signsD; rw [List.length_map, Array.length_toList]; exact Nat.le_refl _)
    rw [e] at hf
    exact hn B' σ' H' ρ' hf (R'.mono (by omega))
/-- for c in text -/
theorem cs_forTx {t : TG} {g : MG} (hK : f.g.K = X.K) (hp : PassesOwn (model X.prog X.w) X.A X.env X.xe) (hc : X.calm = true) (hi : CE f X W ca a ma) (hg : PG X tg t) (hd : TgDs f t g) (hb : CBs f X W cb body ms)
    (hs : ∀ x, foldedSetIterable a X.env x = pure x := by intro _; rfl) (h0 : cb = 0 := by rfl) : CS f X W ca (.For tg a body [] pos) (mForTx ma g ms) := by
  subst h0; exact
  PS.imp (ps_for hp hc (pi_str hi) hg hb.ps hs) fun De σ H h => by
    obtain ⟨B, n, ρ, E, R, hm, hn, hr, hbk, hct, hx⟩ := h
    refine rd_i (m := n) R hm (fun d v H1 h1 e1 R1 r1 => ?_) fun x cls dd H' q e s er => hx B x cls dd σ H' ρ q (R.kp e s) er
    cases r1 with
    | str z => exact ⟨z, rfl, for_coreTx (n := n) (cb := 0) (L := z.cps.size) hd (Nat.le_refl _) (by rw [Nat.mul_zero]; exact R1) h1 hn hr hx⟩
    | _ => exact h1.elim
end
end Hm
set_option Elab.async false
set_option linter.all false
set_option maxRecDepth 100000
set_option maxHeartbeats 4000000
namespace Hm
open PySem L2 PySem.Spec PyProof.Rows
/-! printed by gen.py -/
def topS (i : Nat) : Stmt := PySem.Challenge.pw_handedtext_k02_whole_texts_read.main.body.getD i (.Pass ⟨0, 0, 0, 0⟩)
abbrev s_Reader___init__ : Stmt := clsStmt (topS 16) 0
abbrev s_Reader_sign : Stmt := clsStmt (topS 16) 1
abbrev s_Reader_fail : Stmt := clsStmt (topS 16) 2
abbrev s_Reader_take : Stmt := clsStmt (topS 16) 3
abbrev s_Reader_digits : Stmt := clsStmt (topS 16) 4
abbrev s_Reader_front : Stmt := clsStmt (topS 16) 5
abbrev s_law_source : Stmt := topS 19
abbrev s_law_draw : Stmt := topS 20
abbrev s_law_pick : Stmt := topS 21
abbrev s_digits_of : Stmt := topS 13
abbrev s_is_integer : Stmt := topS 7
abbrev s_is_places : Stmt := topS 12
abbrev s_grouped : Stmt := topS 14
abbrev s_text_of : Stmt := topS 15
abbrev s_law_styles : Stmt := topS 23
abbrev s_read_text : Stmt := topS 17
abbrev s_law_great : Stmt := topS 22
abbrev s_law : Stmt := topS 24
abbrev s_InvalidText___init__ : Stmt := clsStmt (topS 5) 0
theorem sc_Reader___init__ : FnScope ["self", "text"] ["self", "text"] (defScope s_Reader___init__) := ⟨rfl, rfl, rfl, by decide +kernel, rfl, by decide +kernel, by decide +kernel⟩
theorem sc_Reader_sign : FnScope ["self"] ["self"] (defScope s_Reader_sign) := ⟨rfl, rfl, rfl, by decide +kernel, rfl, by decide +kernel, by decide +kernel⟩
theorem sc_Reader_fail : FnScope ["self"] ["self"] (defScope s_Reader_fail) := ⟨rfl, rfl, rfl, by decide +kernel, rfl, by decide +kernel, by decide +kernel⟩
theorem sc_Reader_take : FnScope ["self", "signs"] ["self", "signs"] (defScope s_Reader_take) := ⟨rfl, rfl, rfl, by decide +kernel, rfl, by decide +kernel, by decide +kernel⟩
theorem sc_Reader_digits : FnScope ["self", "least", "most", "found"] ["self", "least", "most"] (defScope s_Reader_digits) := ⟨rfl, rfl, rfl, by decide +kernel, rfl, by decide +kernel, by decide +kernel⟩
theorem sc_Reader_front : FnScope ["self", "found"] ["self"] (defScope s_Reader_front) := ⟨rfl, rfl, rfl, by decide +kernel, rfl, by decide +kernel, by decide +kernel⟩
theorem sc_law_source : FnScope ["_law_script", "_law_cells", "_law_k"] ["_law_script"] (defScope s_law_source) := ⟨rfl, rfl, rfl, by decide +kernel, rfl, by decide +kernel, by decide +kernel⟩
theorem sc_law_draw : FnScope ["_law_source_here", "_law_limit", "_law_cells", "_law_turn", "_law_place", "_law_cell", "_law_number"] ["_law_source_here", "_law_limit"] (defScope s_law_draw) := ⟨rfl, rfl, rfl, by decide +kernel, rfl, by decide +kernel, by decide +kernel⟩
theorem sc_law_pick : FnScope ["_law_source_here", "_law_values"] ["_law_source_here", "_law_values"] (defScope s_law_pick) := ⟨rfl, rfl, rfl, by decide +kernel, rfl, by decide +kernel, by decide +kernel⟩
theorem sc_digits_of : FnScope ["number", "found"] ["number"] (defScope s_digits_of) := ⟨rfl, rfl, rfl, by decide +kernel, rfl, by decide +kernel, by decide +kernel⟩
theorem sc_is_integer : FnScope ["value"] ["value"] (defScope s_is_integer) := ⟨rfl, rfl, rfl, by decide +kernel, rfl, by decide +kernel, by decide +kernel⟩
theorem sc_is_places : FnScope ["value"] ["value"] (defScope s_is_places) := ⟨rfl, rfl, rfl, by decide +kernel, rfl, by decide +kernel, by decide +kernel⟩
theorem sc_grouped : FnScope ["digits", "first", "parts", "at"] ["digits"] (defScope s_grouped) := ⟨rfl, rfl, rfl, by decide +kernel, rfl, by decide +kernel, by decide +kernel⟩
theorem sc_text_of : FnScope ["figure", "places", "sign", "group", "width", "digits", "front", "text"] ["figure", "places", "sign", "group", "width"] (defScope s_text_of) := ⟨rfl, rfl, rfl, by decide +kernel, rfl, by decide +kernel, by decide +kernel⟩
theorem sc_law_styles : FnScope ["_law_figure", "_law_places", "_law_found", "_law_signed", "_law_by_three", "_law_wide"] ["_law_figure", "_law_places"] (defScope s_law_styles) := ⟨rfl, rfl, rfl, by decide +kernel, rfl, by decide +kernel, by decide +kernel⟩
theorem sc_read_text : FnScope ["text", "reader", "is_negative", "digits", "rest", "figure", "digit"] ["text"] (defScope s_read_text) := ⟨rfl, rfl, rfl, by decide +kernel, rfl, by decide +kernel, by decide +kernel⟩
theorem sc_law_great : FnScope ["_law_source_here", "_law_digits", "_law_number", "_law_k"] ["_law_source_here", "_law_digits"] (defScope s_law_great) := ⟨rfl, rfl, rfl, by decide +kernel, rfl, by decide +kernel, by decide +kernel⟩
theorem sc_law : FnScope ["_law_script", "_law_source_here", "_law_turn", "_law_figure", "_law_places", "_law_text", "_law_other", "_law_nought"] ["_law_script"] (defScope s_law) := ⟨rfl, rfl, rfl, by decide +kernel, rfl, by decide +kernel, by decide +kernel⟩
theorem sc_InvalidText___init__ : NdefX.NScope ["self", "at", "__class__"] ["self", "at"] ["__class__"] (defScope s_InvalidText___init__) := NdefX.nscope_by (by decide +kernel)
def k_DIGITS : D := .str "0123456789"
def k_MOST_PLACES : D := .int 60
def k_MOST_WIDTH : D := .int 200
abbrev P : Program := PySem.Challenge.pw_handedtext_k02_whole_texts_read
structure Txt (w : World) (K : PySem.W.Frag) (mg : Str → Option Value) where
  a_Reader___init__ : Addr
  d_Reader___init__ : FuncData
  f_Reader___init__ : Dm K "__init__" "Reader.__init__" s_Reader___init__ ["self", "text"] a_Reader___init__ d_Reader___init__
  a_Reader_sign : Addr
  d_Reader_sign : FuncData
  f_Reader_sign : Dm K "sign" "Reader.sign" s_Reader_sign ["self"] a_Reader_sign d_Reader_sign
  a_Reader_fail : Addr
  d_Reader_fail : FuncData
  f_Reader_fail : Dm K "fail" "Reader.fail" s_Reader_fail ["self"] a_Reader_fail d_Reader_fail
  a_Reader_take : Addr
  d_Reader_take : FuncData
  f_Reader_take : Dm K "take" "Reader.take" s_Reader_take ["self", "signs"] a_Reader_take d_Reader_take
  a_Reader_digits : Addr
  d_Reader_digits : FuncData
  f_Reader_digits : Dm K "digits" "Reader.digits" s_Reader_digits ["self", "least", "most"] a_Reader_digits d_Reader_digits
  a_Reader_front : Addr
  d_Reader_front : FuncData
  f_Reader_front : Dm K "front" "Reader.front" s_Reader_front ["self"] a_Reader_front d_Reader_front
  a_law_source : Addr
  d_law_source : FuncData
  f_law_source : Df K mg "_law_source" s_law_source ["_law_script"] a_law_source d_law_source
  a_law_draw : Addr
  d_law_draw : FuncData
  f_law_draw : Df K mg "_law_draw" s_law_draw ["_law_source_here", "_law_limit"] a_law_draw d_law_draw
  a_law_pick : Addr
  d_law_pick : FuncData
  f_law_pick : Df K mg "_law_pick" s_law_pick ["_law_source_here", "_law_values"] a_law_pick d_law_pick
  a_digits_of : Addr
  d_digits_of : FuncData
  f_digits_of : Df K mg "digits_of" s_digits_of ["number"] a_digits_of d_digits_of
  a_is_integer : Addr
  d_is_integer : FuncData
  f_is_integer : Df K mg "is_integer" s_is_integer ["value"] a_is_integer d_is_integer
  a_is_places : Addr
  d_is_places : FuncData
  f_is_places : Df K mg "is_places" s_is_places ["value"] a_is_places d_is_places
  a_grouped : Addr
  d_grouped : FuncData
  f_grouped : Df K mg "grouped" s_grouped ["digits"] a_grouped d_grouped
  a_text_of : Addr
  d_text_of : FuncData
  f_text_of : DfK K mg "text_of" s_text_of ["figure", "places", "sign", "group", "width"] a_text_of d_text_of
  kb_text_of_0 : KbT K d_text_of ["figure", "places", "sign", "group", "width"] 2 ["sign", "group", "width"] [0, 1, 2, 3, 4] []
  kb_text_of_1 : KbT K d_text_of ["figure", "places", "sign", "group", "width"] 2 [] [0, 1, 2, 3, 4] [.bl false, .bl false, .int 0]
  kb_text_of_2 : KbT K d_text_of ["figure", "places", "sign", "group", "width"] 2 ["sign"] [0, 1, 4, 2, 3] [.bl false, .int 0]
  a_law_styles : Addr
  d_law_styles : FuncData
  f_law_styles : Df K mg "_law_styles" s_law_styles ["_law_figure", "_law_places"] a_law_styles d_law_styles
  a_read_text : Addr
  d_read_text : FuncData
  f_read_text : Df K mg "read_text" s_read_text ["text"] a_read_text d_read_text
  a_law_great : Addr
  d_law_great : FuncData
  f_law_great : Df K mg "_law_great" s_law_great ["_law_source_here", "_law_digits"] a_law_great d_law_great
  a_law : Addr
  d_law : FuncData
  f_law : Df K mg "law" s_law ["_law_script"] a_law d_law
  oc_Reader : Addr
  og_Reader : mg "Reader" = some (.ref oc_Reader)
  oz_Reader : ObC K "Reader" oc_Reader
  ocl_Reader : Cls K oc_Reader
  omr_Reader : PySem.W.mroIn K oc_Reader (.type "object") = some true
  oi_Reader : OIs K ["Reader"] "Reader" oc_Reader
  oe_Reader : OEq K ["Reader"] oc_Reader
  omk_Reader : Mk K oc_Reader a_Reader___init__
  otab : OTab K ["Reader"]
  ofl_at : OFl K ["Reader"] "at"
  ofl_text : OFl K ["Reader"] "text"
  om_Reader_sign : ObM K "Reader" "sign" oc_Reader a_Reader_sign
  om_Reader_fail : ObM K "Reader" "fail" oc_Reader a_Reader_fail
  om_Reader_take : ObM K "Reader" "take" oc_Reader a_Reader_take
  om_Reader_digits : ObM K "Reader" "digits" oc_Reader a_Reader_digits
  om_Reader_front : ObM K "Reader" "front" oc_Reader a_Reader_front
  c_InvalidPlaces : Addr
  c_InvalidStyle : Addr
  c_InvalidText : Addr
  c_InvalidValue : Addr
  ct : Str → Option Addr
  a_InvalidText___init__ : Addr
  d_InvalidText___init__ : FuncData
  f_InvalidText___init__ : DxI P K mg c_InvalidText a_InvalidText___init__ d_InvalidText___init__ ["self", "at"] s_InvalidText___init__ "InvalidText.__init__"
  e_InvalidText : ErrI K mg ct "InvalidText" c_InvalidText a_InvalidText___init__
  xno_InvalidText_at : PySem.W.findIn K (.ref c_InvalidText) "at" = some none
  e_InvalidPlaces : ErrC K mg ct "InvalidPlaces" c_InvalidPlaces
  e_InvalidStyle : ErrC K mg ct "InvalidStyle" c_InvalidStyle
  e_InvalidValue : ErrC K mg ct "InvalidValue" c_InvalidValue
  y_DIGITS : ∃ t, mg "DIGITS" = some (.str "0123456789" t)
  y_MOST_PLACES : ∃ t, mg "MOST_PLACES" = some (.int 60 t)
  y_MOST_WIDTH : ∃ t, mg "MOST_WIDTH" = some (.int 200 t)
  n_abs : mg "abs" = none
  n_bool : mg "bool" = none
  n_int : mg "int" = none
  n_isinstance : mg "isinstance" = none
  n_len : mg "len" = none
  n_range : mg "range" = none
  n_str : mg "str" = none
section
variable {w : World} {K : PySem.W.Frag} {mg : Str → Option Value} {base : Heap}
theorem Txt.x_DIGITS (T : Txt w K mg) {f : FrC} {X : Cx} {W : WX} {pos : Pos} (hg : Gl X "DIGITS") (hK : f.g.K = K := by assumption) (hm : X.mg = mg := by rfl) : CE f X W 0 (.Name "DIGITS" pos) (mC k_DIGITS) := by
  obtain ⟨t, e⟩ := T.y_DIGITS
  exact ce_glob hg (by rw [hm]; exact e) (show RelV (.str "0123456789") _ from ⟨t, rfl⟩) (fun _ _ => .str _)
theorem Txt.x_MOST_PLACES (T : Txt w K mg) {f : FrC} {X : Cx} {W : WX} {pos : Pos} (hg : Gl X "MOST_PLACES") (hK : f.g.K = K := by assumption) (hm : X.mg = mg := by rfl) : CE f X W 0 (.Name "MOST_PLACES" pos) (mC k_MOST_PLACES) := by
  obtain ⟨t, e⟩ := T.y_MOST_PLACES
  exact ce_glob hg (by rw [hm]; exact e) (show RelV (.int 60) _ from ⟨t, rfl⟩) (fun _ _ => .int _)
theorem Txt.x_MOST_WIDTH (T : Txt w K mg) {f : FrC} {X : Cx} {W : WX} {pos : Pos} (hg : Gl X "MOST_WIDTH") (hK : f.g.K = K := by assumption) (hm : X.mg = mg := by rfl) : CE f X W 0 (.Name "MOST_WIDTH" pos) (mC k_MOST_WIDTH) := by
  obtain ⟨t, e⟩ := T.y_MOST_WIDTH
  exact ce_glob hg (by rw [hm]; exact e) (show RelV (.int 200) _ from ⟨t, rfl⟩) (fun _ _ => .int _)
theorem ok_InvalidText___init__ (T : Txt w K mg) : FnOk P w K mg base (L2.CX P w) 1 T.a_InvalidText___init__ T.d_InvalidText___init__ ["self", "at"] (spEx 1 T.c_InvalidText (mkF ["at"])) :=
  fn_ex1 (k := 0) T.f_InvalidText___init__ rfl sc_InvalidText___init__ T.xno_InvalidText_at rfl rfl (by rfl) (by rfl) (by rfl) (by rfl) rfl (fun _ => by rfl) (fun _ _ _ _ => by rfl) (fun _ => by rfl) (fun cc ca A outer s H E => (pss_one (ps_ost (pv 0) (pv 1))))
def m_law_pick : MF := mFun 2 2 (mRet (mOp dIx (mVar 1) (mCall m_draw (mCons (mVar 0) (mCons (mBlt dLen (mCons (mVar 1) mNil)) mNil)))))
def m_digits_of : MF := mFun 1 2 (mSeq (mAsgO 1 (mLst mNil))
  (mSeq (mWhile (mThawT 1 (mOr (mTest (mOp dGt (mVar 0) (mC (.int 0)))) (mTest (mOp dEq (mBlt dLen (mCons (mVar 1) mNil)) (mC (.int 0)))))) (mSeq (mApp 1 (mOp dIx (mC k_DIGITS) (mOp dMod (mVar 0) (mC (.int 10)))))
  (mAsg 0 (mOp dDiv (mVar 0) (mC (.int 10))))))
  (mFz 1 (mRet (mJoin (mC (.str "")) (mUn dRev (mVar 1)))))))
def m_is_integer : MF := mFun 1 1 (mRet (mAndV (mUn (dIsi "int") (mVar 0)) (mNotV (mUn (dIsi "bool") (mVar 0)))))
def m_is_places : MF := mFun 1 1 (mRet (mAndV (mCall m_is_integer (mCons (mVar 0) mNil)) (mChain dLe dLe (mC (.int 0)) (mVar 0) (mC k_MOST_PLACES))))
def m_grouped : MF := mFun 1 4 (mSeq (mAsg 1 (mOp dMod (mBlt dLen (mCons (mVar 0) mNil)) (mC (.int 3))))
  (mSeq (mAsg 2 (mIf (mTest (mOp dGt (mVar 1) (mC (.int 0)))) (mFrz (mLst (mCons (mSl (mVar 0) mNoP (mPart (mVar 1))) mNil))) (mFrz (mLst mNil))))
  (mSeq (mAsg 2 (mOp dAdd (mVar 2) (mFrz (mLcR3 (mVar 1) (mBlt dLen (mCons (mVar 0) mNil)) 3 (gNm 3) mYes (mSl (mVar 0) (mPart (mVar 3)) (mPart (mOp dAdd (mVar 3) (mC (.int 3))))) [3]))))
  (mRet (mJoin (mC (.str ",")) (mVar 2))))))
def m_text_of : MF := mFun 5 8 (mSeq (mIfS (mNot (mTruth (mCall m_is_integer (mCons (mVar 0) mNil)))) (mRaise ⟨"InvalidValue", []⟩) mNext)
  (mSeq (mIfS (mNot (mTruth (mCall m_is_places (mCons (mVar 1) mNil)))) (mRaise ⟨"InvalidPlaces", []⟩) mNext)
  (mSeq (mIfS (mOr (mNot (mTruth (mUn (dIsi "bool") (mVar 2)))) (mNot (mTruth (mUn (dIsi "bool") (mVar 3))))) (mRaise ⟨"InvalidStyle", []⟩) mNext)
  (mSeq (mIfS (mOr (mNot (mTruth (mCall m_is_integer (mCons (mVar 4) mNil)))) (mNot (mTest (mChain dLe dLe (mC (.int 0)) (mVar 4) (mC k_MOST_WIDTH))))) (mRaise ⟨"InvalidStyle", []⟩) mNext)
  (mSeq (mAsg 5 (mCall m_digits_of (mCons (mBlt dAbs (mCons (mVar 0) mNil)) mNil)))
  (mSeq (mIfS (mTest (mOp dLe (mBlt dLen (mCons (mVar 5) mNil)) (mVar 1))) (mAsg 5 (mOp dAdd (mOp dMulS (mC (.str "0")) (mOp dSub (mOp dAdd (mVar 1) (mC (.int 1))) (mBlt dLen (mCons (mVar 5) mNil)))) (mVar 5))) mNext)
  (mSeq (mAsg 6 (mSl (mVar 5) mNoP (mPart (mOp dSub (mBlt dLen (mCons (mVar 5) mNil)) (mVar 1)))))
  (mSeq (mAsg 7 (mIf (mTruth (mVar 3)) (mCall m_grouped (mCons (mVar 6) mNil)) (mVar 6)))
  (mSeq (mIfS (mTest (mOp dGt (mVar 1) (mC (.int 0)))) (mAsg 7 (mOp dAdd (mOp dAdd (mVar 7) (mC (.str "."))) (mSl (mVar 5) (mPart (mOp dSub (mBlt dLen (mCons (mVar 5) mNil)) (mVar 1))) mNoP))) mNext)
  (mSeq (mIfS (mTest (mOp dLt (mVar 0) (mC (.int 0)))) (mAsg 7 (mOp dAdd (mC (.str "-")) (mVar 7))) (mIfS (mAnd (mTruth (mVar 2)) (mTest (mOp dGt (mVar 0) (mC (.int 0))))) (mAsg 7 (mOp dAdd (mC (.str "+")) (mVar 7))) mNext))
  (mRet (mOp dAdd (mOp dMulS (mC (.str " ")) (mOp dSub (mVar 4) (mBlt dLen (mCons (mVar 7) mNil)))) (mVar 7)))))))))))))
def m_law_styles : MF := mFun 2 6 (mSeq (mAsgO 2 (mLst mNil))
  (mSeq (mFor (mFrz (mLst (mCons (mC (.bl true)) (mCons (mC (.bl false)) mNil)))) (gNm 3) (mFor (mFrz (mLst (mCons (mC (.bl true)) (mCons (mC (.bl false)) mNil)))) (gNm 4) (mFor (mFrz (mLst (mCons (mC (.int 0)) (mCons (mC (.int 8)) (mCons (mC (.int 130)) mNil))))) (gNm 5) (mApp 2 (mCallK m_text_of 2 3 [0, 1, 2, 3, 4] [] (mCons (mVar 0) (mCons (mVar 1) mNil)) (mCons (mVar 3) (mCons (mVar 4) (mCons (mVar 5) mNil))))))))
  (mFz 2 (mRet (mVar 2)))))
def m_read_tail : MS := mSeq (mAsg 5 (mC (.int 0))) (mSeq (mForTx (mOp dAdd (mVar 3) (mVar 4)) (gNm 6) (mAsg 5 (mOp dAdd (mOp dMul (mVar 5) (mC (.int 10))) (mIdxS (mC k_DIGITS) (mVar 6)))))
  (mRet (mTup (mCons (mIf (mTruth (mVar 2)) (mUn dNeg (mVar 5)) (mVar 5)) (mCons (mBlt dLen (mCons (mVar 4) mNil)) mNil)))))
def m_read_text : MF := mFun 1 7 (mSeq (mIfS (mNot (mTruth (mUn (dIsi "str") (mVar 0)))) (mRaiseI "InvalidText" ["at"] (mCons (mC (.int 0)) mNil)) mNext) (mReadT m_read_tail))

def m_law_great : MF := mFun 2 4 (mSeq (mAsg 2 (mC (.int 0)))
  (mSeq (mForR1 (mVar 1) (gNm 3) (mAsg 2 (mOp dAdd (mOp dMul (mVar 2) (mC (.int 10))) (mCall m_draw (mCons (mVar 0) (mCons (mC (.int 10)) mNil))))))
  (mRet (mVar 2))))
def m_law : MS := (mSeq (mForR1 (mC (.int 30)) (gNm 2) (mSeq (mAsg 3 (mOp dMul (mCall m_law_great (mCons (mVar 1) (mCons (mCall m_law_pick (mCons (mVar 1) (mCons (mFrz (mLst (mCons (mC (.int 1)) (mCons (mC (.int 2)) (mCons (mC (.int 3)) (mCons (mC (.int 4)) (mCons (mC (.int 5)) (mCons (mC (.int 7)) (mCons (mC (.int 30)) (mCons (mC (.int 60)) mNil)))))))))) mNil))) mNil))) (mCall m_law_pick (mCons (mVar 1) (mCons (mFrz (mLst (mCons (mC (.int 1)) (mCons (mUn dNeg (mC (.int 1))) mNil)))) mNil)))))
  (mSeq (mAsg 4 (mCall m_law_pick (mCons (mVar 1) (mCons (mFrz (mLst (mCons (mC (.int 0)) (mCons (mC (.int 0)) (mCons (mC (.int 1)) (mCons (mC (.int 2)) (mCons (mC (.int 3)) (mCons (mC (.int 6)) (mCons (mC (.int 59)) (mCons (mC (.int 60)) mNil)))))))))) mNil))))
  (mSeq (mFor (mCall m_law_styles (mCons (mVar 3) (mCons (mVar 4) mNil))) (gNm 5) (mIfS (mOr (mTest (mOp dNe (mCall m_read_text (mCons (mVar 5) mNil)) (mTup (mCons (mVar 3) (mCons (mVar 4) mNil))))) (mTest (mOp dNe (mCall m_read_text (mCons (mOp dAdd (mC (.str "   ")) (mVar 5)) mNil)) (mTup (mCons (mVar 3) (mCons (mVar 4) mNil)))))) (mRet (mC (.bl false))) mNext))
  (mSeq (mAsg 6 (mCall m_law_pick (mCons (mVar 1) (mCons (mFrz (mLst (mCons (mVar 3) (mCons (mOp dAdd (mVar 3) (mC (.int 1))) (mCons (mUn dNeg (mVar 3)) (mCons (mOp dMul (mVar 3) (mC (.int 10))) (mCons (mOp dSub (mVar 3) (mC (.int 1))) mNil))))))) mNil))))
  (mSeq (mIfS (mTest (mOp dNe (mOp dEq (mCallK m_text_of 2 0 [0, 1, 2, 3, 4] [.bl false, .bl false, .int 0] (mCons (mVar 3) (mCons (mVar 4) mNil)) mNil) (mCallK m_text_of 2 0 [0, 1, 2, 3, 4] [.bl false, .bl false, .int 0] (mCons (mVar 6) (mCons (mVar 4) mNil)) mNil)) (mOp dEq (mVar 3) (mVar 6)))) (mRet (mC (.bl false))) mNext)
  (mSeq (mAsg 7 (mOp dAdd (mC (.str "-")) (mCallK m_text_of 2 0 [0, 1, 2, 3, 4] [.bl false, .bl false, .int 0] (mCons (mC (.int 0)) (mCons (mVar 4) mNil)) mNil)))
  (mIfS (mOr (mTest (mOp dNe (mCall m_read_text (mCons (mVar 7) mNil)) (mTup (mCons (mC (.int 0)) (mCons (mVar 4) mNil))))) (mTest (mOp dNe (mSl (mCallK m_text_of 2 1 [0, 1, 4, 2, 3] [.bl false, .int 0] (mCons (mC (.int 0)) (mCons (mVar 4) mNil)) (mCons (mC (.bl true)) mNil)) mNoP (mPart (mC (.int 1)))) (mC (.str "0"))))) (mRet (mC (.bl false))) mNext))))))))
  (mSeq (mIfS (mTest (mOp dNe (mCall m_read_text (mCons (mOp dMulS (mC (.str "9")) (mC (.int 1900))) mNil)) (mTup (mCons (mOp dSub (mOp dPow (mOp dPow (mC (.int 10)) (mC (.int 50))) (mC (.int 38))) (mC (.int 1))) (mCons (mC (.int 0)) mNil))))) (mRet (mC (.bl false))) mNext)
  (mSeq (mIfS (mTest (mOp dNe (mCall m_read_text (mCons (mOp dAdd (mOp dAdd (mC (.str "1")) (mOp dMulS (mC (.str "0")) (mC (.int 300)))) (mC (.str ".5"))) mNil)) (mTup (mCons (mOp dAdd (mOp dMul (mOp dPow (mOp dPow (mC (.int 10)) (mC (.int 50))) (mC (.int 6))) (mC (.int 10))) (mC (.int 5))) (mCons (mC (.int 1)) mNil))))) (mRet (mC (.bl false))) mNext)
  (mRet (mAndV (mOp dEq (mCall m_read_text (mCons (mC (.str "+1,000.50")) mNil)) (mTup (mCons (mC (.int 100050)) (mCons (mC (.int 2)) mNil)))) (mOp dEq (mCall m_read_text (mCons (mC (.str "  12")) mNil)) (mTup (mCons (mC (.int 12)) (mCons (mC (.int 0)) mNil)))))))))
theorem ok_law_source (T : Txt w K mg) : FnOk P w K mg base (L2.CX P w) 1 T.a_law_source T.d_law_source ["_law_script"] (spSource K) :=
  fn_source T.f_law_source.F sc_law_source rfl rfl fun cdv A outer s H E hr => pss_cons (ps_asg (pe_slice sl_list (pv 0) po_none (po_some pe_int)) (pg_name (i := 1) sc_law_source.nd rfl (Or.inl rfl)))
    (pss_cons (ps_for (passes_of rfl) rfl (pi_range1 (by rfl) T.n_range (pa_cons (pe_callB call_len (by rfl) T.n_len PySem.boot_len (pa_cons (pv 1) pa_nil)) pa_nil)) (pg_name (i := 2) sc_law_source.nd rfl (Or.inl rfl))
      (pss_one (ps_if (pt_cmpR op_ge (pe_callB call_abs (by rfl) T.n_abs (by decide +kernel) (pa_cons (pe_ix ix_list (pv 1) (pv 2) (fun _ _ => rfl)) pa_nil)) (pe_op op_powW pe_int pe_int) (nomark _))
        (pss_one (ps_asg (pe_op op_mod (pe_callTy call_int1 (by rfl) T.n_int (by decide +kernel) (pa_cons (pe_ix ix_list (pv 1) (pv 2) (fun _ _ => rfl)) pa_nil)) (pe_op op_powW (pe_op op_powW pe_int pe_int) pe_int)) (pg_sub (pv 1) (pv 2) set_list))) pss_nil)))
    (pss_cons (ps_if (pt_cmpR (op_eqD hr.units) (pv 1) (pe_lst pa_nil) (nomark _)) (pss_one (ps_asg (pe_lst (pa_cons pe_int pa_nil)) (pg_name (i := 1) sc_law_source.nd rfl (Or.inl rfl)))) pss_nil)
    (pss_one (ps_ret (pe_lst (pa_cons (pv 1) (pa_cons pe_int pa_nil)))))))
theorem ok_law_draw (T : Txt w K mg) : FnD P w K mg base T.ct 1 T.a_law_draw T.d_law_draw ["_law_source_here", "_law_limit"] 1 m_draw :=
  fn_draw T.f_law_draw.F sc_law_draw rfl rfl fun cdv A outer s H E => pss_cons (ps_asg (pv 0) (pg_lst rfl (pgs_cons (pg_name (i := 2) sc_law_draw.nd rfl (Or.inl rfl)) (pgs_cons (pg_name (i := 3) sc_law_draw.nd rfl (Or.inl rfl)) pgs_nil))))
    (pss_cons (ps_asg (pe_op op_mod (pe_callTy call_int1 (by rfl) T.n_int (by decide +kernel) (pa_cons (pv 3) pa_nil)) (pe_callB call_len (by rfl) T.n_len PySem.boot_len (pa_cons (pv 2) pa_nil))) (pg_name (i := 4) sc_law_draw.nd rfl (Or.inl rfl)))
    (pss_cons (ps_asg (pe_ix ix_list (pv 2) (pv 4) (fun _ _ => rfl)) (pg_name (i := 5) sc_law_draw.nd rfl (Or.inl rfl)))
    (pss_cons (ps_asg (pe_op op_add (pv 3) pe_int) (pg_sub (pv 0) pe_int set_list))
    (pss_cons (ps_if (pt_cmpR op_ge (pv 5) (pe_op op_powW pe_int pe_int) (nomark _)) (pss_cons (ps_asg (pe_op op_fdivW (pv 5) (pv 1)) (pg_sub (pv 2) (pv 4) set_list)) (pss_one (ps_ret (pe_op op_mod (pe_callTy call_int1 (by rfl) T.n_int (by decide +kernel) (pa_cons (pv 5) pa_nil)) (pv 1))))) pss_nil)
    (pss_cons (ps_asg (pe_op op_mod (pe_callTy call_int1 (by rfl) T.n_int (by decide +kernel) (pa_cons (pe_op op_add (pe_op op_add (pe_op op_mulW (pe_op op_mod (pe_callTy call_int1 (by rfl) T.n_int (by decide +kernel) (pa_cons (pv 5) pa_nil)) pe_int) pe_int) (pe_op op_mulW (pe_op op_mulW (pv 3) (pv 3)) pe_int)) pe_int) pa_nil)) pe_int) (pg_name (i := 6) sc_law_draw.nd rfl (Or.inl rfl)))
    (pss_cons (ps_asg (pe_op op_mod (pe_callTy call_int1 (by rfl) T.n_int (by decide +kernel) (pa_cons (pe_op op_mulW (pv 6) (pv 6)) pa_nil)) pe_int) (pg_name (i := 6) sc_law_draw.nd rfl (Or.inl rfl)))
    (pss_cons (ps_asg (pe_op op_mod (pe_callTy call_int1 (by rfl) T.n_int (by decide +kernel) (pa_cons (pe_op op_mulW (pv 6) (pv 6)) pa_nil)) pe_int) (pg_name (i := 6) sc_law_draw.nd rfl (Or.inl rfl)))
    (pss_one (ps_ret (pe_op op_mod (pe_callTy call_int1 (by rfl) T.n_int (by decide +kernel) (pa_cons (pv 6) pa_nil)) (pv 1))))))))))) 
theorem ok_law_pick (T : Txt w K mg) : FnD P w K mg base T.ct 2 T.a_law_pick T.d_law_pick ["_law_source_here", "_law_values"] 1 m_law_pick :=
  FnD.cost (fn_data (k := 1) T.f_law_pick.F sc_law_pick fun cdv A outer s H E f hK hct hn hr =>
    (cs_one (cs_ret hn (ce_ix hK ix_seq od_ix (ce_var 1) (ce_call (ok_law_draw T) hct hK (takes_of rfl rfl rfl rfl) (hr.mono (by decide)) (by rfl) T.f_law_draw.g T.f_law_draw.F.kp T.f_law_draw.b (ca_cons (ce_var 0) (ca_cons (ce_blt hK call_len cd_len (by rfl) T.n_len (by decide +kernel) (ca_cons (ce_var 1) ca_nil)) ca_nil))))))) (by decide +kernel)
theorem ok_digits_of (T : Txt w K mg) : FnD P w K mg base T.ct 1 T.a_digits_of T.d_digits_of ["number"] 0 m_digits_of :=
  FnD.cost (fn_data (k := 0) T.f_digits_of.F sc_digits_of fun cdv A outer s H E f hK hct hn hr =>
    (cs_cons (cs_asgO (i := 1) sc_digits_of.nd (cl_lst ca_nil))
    (cs_cons (cs_while (passes_of rfl) (ct_thaw 1 (ct_w (cw_or (ct_cmp hK op_gt (od_cmp _) (ce_var 0) ce_int) (cw_or1 (ct_cmp hK (op_eqDD hr.units) od_eq (ce_blt hK call_len cd_len (by rfl) T.n_len (by decide +kernel) (ca_cons (ce_var 1) ca_nil)) ce_int))))) (cs_cons (cs_app (i := 1) (ce_ix hK ix_seq od_ix (T.x_DIGITS (by rfl)) (ce_op hK op_mod od_mod (ce_var 0) ce_int)))
    (cs_one (cs_asg (i := 0) sc_digits_of.nd (ce_op hK op_fdivW od_div (ce_var 0) ce_int)))))
    (cs_one (cs_fz 1 (cs_ret hn (ce_join ce_str (ce_rev hK (ce_var 1))))))))) (by decide +kernel)
theorem ok_is_integer (T : Txt w K mg) : FnD P w K mg base T.ct 1 T.a_is_integer T.d_is_integer ["value"] 0 m_is_integer :=
  FnD.cost (fn_data (k := 0) T.f_is_integer.F sc_is_integer fun cdv A outer s H E f hK hct hn hr =>
    (cs_one (cs_ret hn (ce_and (ce_isi hK (T := "int") (by decide) (by rfl) T.n_isinstance (by rfl) T.n_int (by decide +kernel) (ce_var 0)) (ce_one (ce_not (ce_isi hK (T := "bool") (by decide) (by rfl) T.n_isinstance (by rfl) T.n_bool (by decide +kernel) (ce_var 0)))))))) (by decide +kernel)
theorem ok_is_places (T : Txt w K mg) : FnD P w K mg base T.ct 2 T.a_is_places T.d_is_places ["value"] 0 m_is_places :=
  FnD.cost (fn_data (k := 1) T.f_is_places.F sc_is_places fun cdv A outer s H E f hK hct hn hr =>
    (cs_one (cs_ret hn (ce_and (ce_call (ok_is_integer T) hct hK (takes_of rfl rfl rfl rfl) (hr.mono (by decide)) (by rfl) T.f_is_integer.g T.f_is_integer.F.kp T.f_is_integer.b (ca_cons (ce_var 0) ca_nil)) (ce_one (ce_chain hK op_le (od_cmp _) op_le (od_cmp _) ce_int (ce_var 0) (T.x_MOST_PLACES (by rfl)))))))) (by decide +kernel)
theorem ok_grouped (T : Txt w K mg) : FnD P w K mg base T.ct 1 T.a_grouped T.d_grouped ["digits"] 0 m_grouped :=
  FnD.cost (fn_data (k := 0) T.f_grouped.F sc_grouped fun cdv A outer s H E f hK hct hn hr =>
    (cs_cons (cs_asg (i := 1) sc_grouped.nd (ce_op hK op_mod od_mod (ce_blt hK call_len cd_len (by rfl) T.n_len (by decide +kernel) (ca_cons (ce_var 0) ca_nil)) ce_int))
    (cs_cons (cs_asg (i := 2) sc_grouped.nd (ce_if (ct_cmp hK op_gt (od_cmp _) (ce_var 1) ce_int) (ce_lst (ca_cons (ce_sl hK (ce_var 0) co_none (co_some (ce_var 1))) ca_nil)) (ce_lst ca_nil)))
    (cs_cons (cs_asg (i := 2) sc_grouped.nd (ce_op hK op_addD od_add (ce_var 2) (ce_frz (have P := (show LcP _ _ _ [("at", 3)] _ _ _ _ _ _ _ _ _ _ from ⟨blkOk_by (N := ["digits", "first", "parts", "at"]) (sc := defScope s_grouped) (own := [("at", 3)]) (by decide +kernel), fun _ _ _ _ _ => (pg_name (i := 3) sc_grouped.nd rfl (by first | exact Or.inl rfl | exact Or.inr rfl)), tg_name, (by decide), fun _ _ _ _ _ => cts_nil, fun _ _ _ _ _ => (ce_sl hK (ce_var 0) (co_some (ce_var 3)) (co_some (ce_op hK op_addD od_add (ce_var 3) ce_int)))⟩); cl_lc rfl sc_grouped.nd P (li_range3 P rfl (by rfl) T.n_range (ce_var 1) (ce_blt hK call_len cd_len (by rfl) T.n_len (by decide +kernel) (ca_cons (ce_var 0) ca_nil)) ce_int)))))
    (cs_one (cs_ret hn (ce_join ce_str (ce_var 2)))))))) (by decide +kernel)
theorem ok_text_of (T : Txt w K mg) : FnD P w K mg base T.ct 3 T.a_text_of T.d_text_of ["figure", "places", "sign", "group", "width"] 0 m_text_of :=
  FnD.cost (fn_data (k := 2) T.f_text_of.F sc_text_of fun cdv A outer s H E f hK hct hn hr =>
    (cs_cons (cs_if (ct_not (ct_truth hK (ce_call (ok_is_integer T) hct hK (takes_of rfl rfl rfl rfl) (hr.mono (by decide)) (by rfl) T.f_is_integer.g T.f_is_integer.F.kp T.f_is_integer.b (ca_cons (ce_var 0) ca_nil)))) (cs_one (cs_raise0 hct rfl (takes_of rfl rfl rfl rfl) T.e_InvalidValue (by rfl))) cs_nil)
    (cs_cons (cs_if (ct_not (ct_truth hK (ce_call (ok_is_places T) hct hK (takes_of rfl rfl rfl rfl) (hr.mono (by decide)) (by rfl) T.f_is_places.g T.f_is_places.F.kp T.f_is_places.b (ca_cons (ce_var 1) ca_nil)))) (cs_one (cs_raise0 hct rfl (takes_of rfl rfl rfl rfl) T.e_InvalidPlaces (by rfl))) cs_nil)
    (cs_cons (cs_if (ct_w (cw_or (ct_not (ct_truth hK (ce_isi hK (T := "bool") (by decide) (by rfl) T.n_isinstance (by rfl) T.n_bool (by decide +kernel) (ce_var 2)))) (cw_or1 (ct_not (ct_truth hK (ce_isi hK (T := "bool") (by decide) (by rfl) T.n_isinstance (by rfl) T.n_bool (by decide +kernel) (ce_var 3))))))) (cs_one (cs_raise0 hct rfl (takes_of rfl rfl rfl rfl) T.e_InvalidStyle (by rfl))) cs_nil)
    (cs_cons (cs_if (ct_w (cw_or (ct_not (ct_truth hK (ce_call (ok_is_integer T) hct hK (takes_of rfl rfl rfl rfl) (hr.mono (by decide)) (by rfl) T.f_is_integer.g T.f_is_integer.F.kp T.f_is_integer.b (ca_cons (ce_var 4) ca_nil)))) (cw_or1 (ct_not (ct_chain hK op_le (od_cmp _) op_le (od_cmp _) ce_int (ce_var 4) (T.x_MOST_WIDTH (by rfl))))))) (cs_one (cs_raise0 hct rfl (takes_of rfl rfl rfl rfl) T.e_InvalidStyle (by rfl))) cs_nil)
    (cs_cons (cs_asg (i := 5) sc_text_of.nd (ce_call (ok_digits_of T) hct hK (takes_of rfl rfl rfl rfl) (hr.mono (by decide)) (by rfl) T.f_digits_of.g T.f_digits_of.F.kp T.f_digits_of.b (ca_cons (ce_blt hK call_abs cd_abs (by rfl) T.n_abs (by decide +kernel) (ca_cons (ce_var 0) ca_nil)) ca_nil)))
    (cs_cons (cs_if (ct_cmp hK op_le (od_cmp _) (ce_blt hK call_len cd_len (by rfl) T.n_len (by decide +kernel) (ca_cons (ce_var 5) ca_nil)) (ce_var 1)) (cs_one (cs_asg (i := 5) sc_text_of.nd (ce_op hK op_addD od_add (ce_op hK op_mulS od_mulS ce_str (ce_op hK op_sub od_sub (ce_op hK op_addD od_add (ce_var 1) ce_int) (ce_blt hK call_len cd_len (by rfl) T.n_len (by decide +kernel) (ca_cons (ce_var 5) ca_nil)))) (ce_var 5)))) cs_nil)
    (cs_cons (cs_asg (i := 6) sc_text_of.nd (ce_sl hK (ce_var 5) co_none (co_some (ce_op hK op_sub od_sub (ce_blt hK call_len cd_len (by rfl) T.n_len (by decide +kernel) (ca_cons (ce_var 5) ca_nil)) (ce_var 1)))))
    (cs_cons (cs_asg (i := 7) sc_text_of.nd (ce_if (ct_truth hK (ce_var 3)) (ce_call (ok_grouped T) hct hK (takes_of rfl rfl rfl rfl) (hr.mono (by decide)) (by rfl) T.f_grouped.g T.f_grouped.F.kp T.f_grouped.b (ca_cons (ce_var 6) ca_nil)) (ce_var 6)))
    (cs_cons (cs_if (ct_cmp hK op_gt (od_cmp _) (ce_var 1) ce_int) (cs_one (cs_asg (i := 7) sc_text_of.nd (ce_op hK op_addD od_add (ce_op hK op_addD od_add (ce_var 7) ce_str) (ce_sl hK (ce_var 5) (co_some (ce_op hK op_sub od_sub (ce_blt hK call_len cd_len (by rfl) T.n_len (by decide +kernel) (ca_cons (ce_var 5) ca_nil)) (ce_var 1))) co_none)))) cs_nil)
    (cs_cons (cs_if (ct_cmp hK op_lt (od_cmp _) (ce_var 0) ce_int) (cs_one (cs_asg (i := 7) sc_text_of.nd (ce_op hK op_addD od_add ce_str (ce_var 7)))) (cs_one (cs_if (ct_w (cw_and (ct_truth hK (ce_var 2)) (cw_and1 (ct_cmp hK op_gt (od_cmp _) (ce_var 0) ce_int)))) (cs_one (cs_asg (i := 7) sc_text_of.nd (ce_op hK op_addD od_add ce_str (ce_var 7)))) cs_nil)))
    (cs_one (cs_ret hn (ce_op hK op_addD od_add (ce_op hK op_mulS od_mulS ce_str (ce_op hK op_sub od_sub (ce_var 4) (ce_blt hK call_len cd_len (by rfl) T.n_len (by decide +kernel) (ca_cons (ce_var 7) ca_nil)))) (ce_var 7))))))))))))))) (by decide +kernel)
theorem ok_law_styles (T : Txt w K mg) : FnD P w K mg base T.ct 4 T.a_law_styles T.d_law_styles ["_law_figure", "_law_places"] 0 m_law_styles :=
  FnD.cost (fn_data (k := 3) T.f_law_styles.F sc_law_styles fun cdv A outer s H E f hK hct hn hr =>
    (cs_cons (cs_asgO (i := 2) sc_law_styles.nd (cl_lst ca_nil))
    (cs_cons (cs_for hK (passes_of rfl) rfl (ce_lst (ca_cons ce_bl (ca_cons ce_bl ca_nil))) (pg_name (i := 3) sc_law_styles.nd rfl (by first | exact Or.inl rfl | exact Or.inr rfl)) (fun f1 hf1 => ⟨_, tg_name⟩) (fun f1 hf1 => (cs_one (cs_for (hk2 hf1 hK) (passes_of rfl) rfl (ce_lst (ca_cons ce_bl (ca_cons ce_bl ca_nil))) (pg_name (i := 4) sc_law_styles.nd rfl (by first | exact Or.inl rfl | exact Or.inr rfl)) (fun f2 hf2 => ⟨_, tg_name⟩) (fun f2 hf2 => (cs_one (cs_for (hk2 hf2 (hk2 hf1 hK)) (passes_of rfl) rfl (ce_lst (ca_cons ce_int (ca_cons ce_int (ca_cons ce_int ca_nil)))) (pg_name (i := 5) sc_law_styles.nd rfl (by first | exact Or.inl rfl | exact Or.inr rfl)) (fun f3 hf3 => ⟨_, tg_name⟩) (fun f3 hf3 => (cs_one (cs_app (i := 2) (ce_callK (ok_text_of T) (hc2 hf3 (hc2 hf2 (hc2 hf1 hct))) (hk2 hf3 (hk2 hf2 (hk2 hf1 hK))) (takes_of rfl rfl rfl rfl) (hr.mono (by decide)) (by rfl) T.f_text_of.g T.f_text_of.F.kp T.kb_text_of_0 (fun _ _ _ => .nil) (ca_cons (ce_var 0) (ca_cons (ce_var 1) ca_nil)) (cq_cons (ce_var 3) (cq_cons (ce_var 4) (cq_cons (ce_var 5) cq_nil))))))))))))))
    (cs_one (cs_fz 2 (cs_ret hn (ce_var 2))))))) (by decide +kernel)
/-! the reader's methods -/
theorem Txt.rt (T : Txt w K mg) : NoAttr K T.oc_Reader "text" := (T.ofl_text _ (by decide) _ T.oz_Reader.ns).2
theorem Txt.ra (T : Txt w K mg) : NoAttr K T.oc_Reader "at" := (T.ofl_at _ (by decide) _ T.oz_Reader.ns).2
theorem ok_Reader___init__ (T : Txt w K mg) : FnOk P w K mg base (L2.CX P w) 1 T.a_Reader___init__ T.d_Reader___init__ ["self", "text"] (spRI T.oc_Reader) :=
  T.f_Reader___init__.F.okX sc_Reader___init__ (fun vs H Q E h => by obtain ⟨x, dx, l, rfl, _⟩ := h; rfl) fun cdv A outer s H vs Q E hr h => by
    obtain ⟨x, dx, l, rfl, hx, q⟩ := h
    refine ⟨_, pss_cons (ps_fld (pv 0) (pv 1) rfl) (pss_one (ps_fld (pv 0) pe_int rfl)), ?_⟩
    refine ⟨_, rfl, _, rfl, x, _, dx, _, rfl, hx, T.ocl_Reader, T.rt, (by show 0 < 1000; omega), ?_⟩
    refine ⟨_, rfl, x, _, dx, _, rfl, upd_same, T.ocl_Reader, T.ra, (by show 1 < 1000; omega), ?_⟩
    rw [upd_upd]
    exact q
theorem ok_Reader_sign (T : Txt w K mg) : FnOk P w K mg base (L2.CX P w) 1 T.a_Reader_sign T.d_Reader_sign ["self"] (spR T.oc_Reader T.c_InvalidText 0 r_sign) :=
  T.f_Reader_sign.F.okX sc_Reader_sign (fun vs H Q E h => spR_len h) fun cdv A outer s H vs Q E hr h => by
    obtain ⟨a, dx, l, n, us, Q0, W0, rfl, hu, ha, hn, hl, q, hq, hw⟩ := h
    cases List.length_eq_zero_iff.mp hu
    refine ⟨_, pss_one (ps_ret (pe_slice sl_str (pe_fld (pv 0) rfl) (po_some (pe_fld (pv 0) rfl)) (po_some (pe_op op_add (pe_fld (pv 0) rfl) pe_int)))), ?_⟩
    refine ⟨_, rfl, a, _, dx, _, _, rfl, ha, T.ocl_Reader, T.rt, kR_text, ?_⟩
    refine ⟨_, rfl, a, _, dx, _, _, rfl, ha, T.ocl_Reader, T.ra, kR_at, _, rfl, ?_⟩
    refine ⟨_, rfl, a, _, dx, _, _, rfl, ha, T.ocl_Reader, T.ra, kR_at, _, _, rfl, rfl, _, rfl, ?_⟩
    refine ⟨_, rfl, sx_line hl, ?_⟩
    rw [cut_sgn hn]
    have := hq _ _ q
    rwa [upd_self ha] at this
theorem ok_Reader_fail (T : Txt w K mg) : FnOk P w K mg base (L2.CX P w) 3 T.a_Reader_fail T.d_Reader_fail ["self"] (spR T.oc_Reader T.c_InvalidText 0 r_fail) :=
  T.f_Reader_fail.F.okX (k := 2) sc_Reader_fail (fun vs H Q E h => spR_len h) fun cdv A outer s H vs Q E hr h => by
    obtain ⟨a, dx, l, n, us, Q0, W0, rfl, hu, ha, hn, hl, q, hq, hw⟩ := h
    cases List.length_eq_zero_iff.mp hu
    refine ⟨_, pss_one (ps_raise rfl (takes_of rfl rfl rfl rfl) (pmk_oex T.e_InvalidText.ox T.e_InvalidText.iC T.e_InvalidText.tI (ok_InvalidText___init__ T) (hr.mono (by decide)) T.f_InvalidText___init__.b .nil no_out (by rfl) T.e_InvalidText.gC (pa_cons (pe_fld (pv 0) rfl) pa_nil))), ?_⟩
    refine ⟨_, rfl, a, _, dx, _, _, rfl, ha, T.ocl_Reader, T.ra, kR_at, (by show 1 ≤ 1000; omega), fun b nb => ex_fits (R := fun b d fs Hx => E (.ref T.c_InvalidText) (some d) Hx) rfl (fun b d nb nd hdb => ?_) nb⟩
    have := hw n n q d (by rw [upd_self ha]; exact nd)
    rwa [upd_self ha] at this
theorem ok_Reader_take (T : Txt w K mg) : FnOk P w K mg base (L2.CX P w) 2 T.a_Reader_take T.d_Reader_take ["self", "signs"] (spR T.oc_Reader T.c_InvalidText 1 r_take) :=
  T.f_Reader_take.F.okX (k := 1) sc_Reader_take (fun vs H Q E h => spR_len h) fun cdv A outer s H vs Q E hr h => by
    obtain ⟨a, dx, l, n, us, Q0, W0, rfl, hu, ha, hn, hl, ⟨z, rfl, q⟩, hq, hw⟩ := h
    have tk := takes_of (X := cxOf (L2.CX P w) P w K mg base ["self", "signs"] "Reader.take" (defScope s_Reader_take) T.a_Reader_take cdv A outer s H E) rfl rfl rfl rfl
    have hM : Meth K T.oc_Reader "sign" T.a_Reader_sign := ⟨T.om_Reader_sign.at_, T.om_Reader_sign.fn, T.om_Reader_sign.kp⟩
    refine ⟨_, pss_cons (ps_if (pw_or (pt_cmpR op_eq (pe_methS0 (pv 0) T.ocl_Reader hM (ok_Reader_sign T) (hr.mono (by decide)) T.f_Reader_sign.b (fun σ => passAt tk σ)) pe_str (nomark _))
        (pw_or1 (pt_cmpR op_notInS (pe_methS0 (pv 0) T.ocl_Reader hM (ok_Reader_sign T) (hr.mono (by decide)) T.f_Reader_sign.b (fun σ => passAt tk σ)) (pv 1) rfl))).pt (pss_one (ps_ret pe_bl)) pss_nil)
      (pss_cons (ps_fld (pv 0) (pe_op op_add (pe_fld (pv 0) rfl) pe_int) rfl) (pss_one (ps_ret pe_bl))), ?_⟩
    rw [← upd_self ha]
    refine rd_m0 rfl (kR_no (by decide) (by decide)) hn hl ?_
    refine ⟨rfl, _, rfl, ?_⟩
    rcases sgn_cases (l := l) (n := n) with ⟨c, h1, h2, h3⟩ | ⟨h1, h2, h3⟩
    · rw [h1] at q
      rw [h2, if_neg (by rw [str_e']; exact fun z => sgn_ne (V.str.inj (of_decide_eq_true z)))]
      refine rd_m0 rfl (kR_no (by decide) (by decide)) hn hl ?_
      refine ⟨_, rfl, c, SX' z, by rw [h2], rfl, _, rfl, ?_⟩
      dsimp only at q
      by_cases hc : c ∈ z
      · rw [if_pos hc] at q
        rw [if_neg (by simp [hc])]
        refine ⟨_, rfl, a, _, dx, _, _, rfl, upd_same, T.ocl_Reader, T.ra, kR_at, _, _, rfl, rfl, _, rfl, a, _, dx, _, rfl, upd_same, T.ocl_Reader, T.ra, (by show 2 < 1000; omega), ?_⟩
        rw [upd_upd]
        exact hq _ _ q
      · rw [if_neg hc] at q
        rw [if_pos (by simp [hc])]
        exact hq _ _ q
    · rw [h1] at q
      rw [h2, if_pos (by rw [str_e']; exact decide_eq_true rfl)]
      exact hq _ _ q
theorem ok_Reader_digits (T : Txt w K mg) : FnOk P w K mg base (L2.CX P w) 4 T.a_Reader_digits T.d_Reader_digits ["self", "least", "most"] (spR T.oc_Reader T.c_InvalidText 2 r_digits) :=
  T.f_Reader_digits.F.okX (k := 3) sc_Reader_digits (fun vs H Q E h => spR_len h) fun cdv A outer s H vs Q E hr h => by
    obtain ⟨a, dx, l, n, us, Q0, W0, rfl, hu, ha, hn, hl, ⟨least, most, rfl, q⟩, hq, hw⟩ := h
    have tk := takes_of (X := cxOf (L2.CX P w) P w K mg base ["self", "least", "most", "found"] "Reader.digits" (defScope s_Reader_digits) T.a_Reader_digits cdv A outer s H E) rfl rfl rfl rfl
    have hM : Meth K T.oc_Reader "sign" T.a_Reader_sign := ⟨T.om_Reader_sign.at_, T.om_Reader_sign.fn, T.om_Reader_sign.kp⟩
    have hF : Meth K T.oc_Reader "fail" T.a_Reader_fail := ⟨T.om_Reader_fail.at_, T.om_Reader_fail.fn, T.om_Reader_fail.kp⟩
    obtain ⟨td, hd⟩ := T.y_DIGITS
    refine ⟨_, pss_cons (ps_asg pe_str (pg_name (i := 3) sc_Reader_digits.nd rfl (Or.inl rfl)))
      (pss_cons (ps_while (passes_of rfl) (pw_and (pw_or (pt_cmpR op_isN1 (pv 2) pe_non (nomark _)) (pw_or1 (pt_cmpR op_lt (pe_callB call_len (by rfl) T.n_len PySem.boot_len (pa_cons (pv 3) pa_nil)) (pv 2) (nomark _)))).pt
          (pw_and (pt_cmpR op_ne (pe_methS0 (pv 0) T.ocl_Reader hM (ok_Reader_sign T) (hr.mono (by decide)) T.f_Reader_sign.b (fun σ => passAt tk σ)) pe_str (nomark _)) (pw_and1 (pt_cmpR op_inS (pe_methS0 (pv 0) T.ocl_Reader hM (ok_Reader_sign T) (hr.mono (by decide)) T.f_Reader_sign.b (fun σ => passAt tk σ)) (pe_glob (v := .str "0123456789") (by rfl) hd ⟨td, rfl⟩) rfl)))).pt
        (pss_cons (ps_asg (pe_op op_add_str (pv 3) (pe_methS0 (pv 0) T.ocl_Reader hM (ok_Reader_sign T) (hr.mono (by decide)) T.f_Reader_sign.b (fun σ => passAt tk σ))) (pg_name (i := 3) sc_Reader_digits.nd rfl (Or.inl rfl))) (pss_one (ps_fld (pv 0) (pe_op op_add (pe_fld (pv 0) rfl) pe_int) rfl))))
      (pss_cons (ps_if (pt_cmpR op_lt (pe_callB call_len (by rfl) T.n_len PySem.boot_len (pa_cons (pv 3) pa_nil)) (pv 1) (nomark _)) (pss_one (ps_expr (pe_methS0 (pv 0) T.ocl_Reader hF (ok_Reader_fail T) (hr.mono (by decide)) T.f_Reader_fail.b (fun σ => passAt tk σ)) rfl)) pss_nil)
      (pss_one (ps_ret (pv 3))))), ?_⟩
    rw [← upd_self ha]
    refine ⟨fun m σ H' => ∃ (j : Nat) (F : List Nat), σ = [some (.ref a), some (.int (least : Nat)), some (mostV most), some (.str (SX' F))] ∧ H' = upd H a (.ins T.oc_Reader dx (kR l j)) ∧ j ≤ l.length ∧ m = l.length - j ∧
      F ++ runM (l.drop j) (most.map (· - F.length)) = runM (l.drop n) most ∧ j = n + F.length ∧ (∀ mm, most = some mm → F.length ≤ mm), ⟨_, n, [], by rw [← str_e']; rfl, rfl, hn, rfl, by cases most <;> simp, rfl, fun _ _ => Nat.zero_le _⟩, ?_⟩
    rintro m σ H' ⟨j, F, rfl, rfl, hj, rfl, hF, hjn, hm⟩
    have hFl : F.length ≤ rdMost := by omega
    have vl : Val (tCB (rLenB K) (tCons (tVar 3) tNil)) [some (.ref a), some (.int (least : Nat)), some (mostV most), some (.str (SX' F))] (upd H a (.ins T.oc_Reader dx (kR l j))) (.int F.length) := fun Q q => ⟨_, rfl, _, F.length, rfl, ⟨sx_line hFl, sx'_len.symm⟩, q⟩
    refine ans_go (b := decide (runM (l.drop j) (most.map (· - F.length)) ≠ [])) (fun Q q => ?_) ?_
    · refine and_go (b := decide (∀ mm, most = some mm → F.length < mm)) (fun Q q => ?_) ?_
      · cases most with
        | none =>
          refine ans_isN (b := true) (val_var rfl) rfl _ (iteT ?_)
          rwa [decide_eq_true (fun _ h => by cases h)] at q
        | some mm =>
          refine ans_isN (b := false) (val_var rfl) rfl _ (iteF ?_)
          refine ans_cmp (b := decide ((F.length : Int) < (mm : Int))) vl (val_var rfl) (fun Q q => ⟨_, _, rfl, rfl, q⟩) _ ?_
          have e : decide (∀ m', some mm = some m' → F.length < m') = decide ((F.length : Int) < (mm : Int)) := decide_eq_decide.mpr ⟨fun h => by have := h mm rfl; omega, fun h m' e => by cases e; omega⟩
          rwa [e] at q
      · by_cases hcap : ∀ mm, most = some mm → F.length < mm
        · rw [decide_eq_true hcap]
          refine iteT (ans_sgn_dig rfl hj hl _ ?_)
          have e : (runM (l.drop j) (some 1) ≠ []) ↔ runM (l.drop j) (most.map (· - F.length)) ≠ [] := by
            cases e : l.drop j with
            | nil => rw [runM_nil, runM_nil]
            | cons c r =>
              cases hc : isDg c with
              | false => rw [runM_no hc, runM_no hc]
              | true =>
                cases most with
                | none => rw [runM_yes' hc, Option.map_none, runM_yes hc]; simp
                | some mm =>
                  obtain ⟨k, ek⟩ : ∃ k, mm - F.length = k + 1 := ⟨mm - F.length - 1, by have := hcap mm rfl; omega⟩
                  rw [runM_yes' hc, Option.map_some, ek, runM_yes' hc]; simp
          rwa [decide_eq_decide.mpr e.symm] at q
        · rw [decide_eq_false hcap]
          refine iteF ?_
          have e : runM (l.drop j) (most.map (· - F.length)) = [] := by
            cases most with
            | none => exact absurd (fun _ h => by cases h) hcap
            | some mm =>
              have : mm - F.length = 0 := by
                by_cases c : F.length < mm
                · exact absurd (fun m' e => by cases e; exact c) hcap
                · omega
              rw [Option.map_some, this, runM_zero]
          rwa [decide_eq_false (fun h => h e)] at q
    · by_cases hr0 : runM (l.drop j) (most.map (· - F.length)) = []
      · rw [decide_eq_false (fun h => h hr0)]
        refine iteF ?_
        rw [hr0, List.append_nil] at hF
        rw [← hF] at q
        refine ans_cmp (b := decide ((F.length : Int) < (least : Int))) vl (val_var rfl) (fun Q q => ⟨_, _, rfl, rfl, q⟩) _ ?_
        by_cases hlt : F.length < least
        · rw [if_pos hlt] at q
          rw [if_pos (by simpa using hlt)]
          refine rd_m0 rfl (kR_no (by decide) (by decide)) hj hl ?_
          subst hjn
          exact fun j' d hd => hw j' _ q d hd
        · rw [if_neg hlt] at q
          rw [if_neg (by simpa using hlt)]
          subst hjn
          exact ⟨_, rfl, hq _ _ q⟩
      · rw [decide_eq_true hr0]
        refine iteT ?_
        obtain ⟨c, r, e⟩ : ∃ c r, l.drop j = c :: r := by
          cases e : l.drop j with
          | nil => rw [e, runM_nil] at hr0; exact absurd rfl hr0
          | cons c r => exact ⟨c, r, rfl⟩
        have hc : isDg c = true := by
          cases hc : isDg c with
          | true => rfl
          | false => rw [e, runM_no hc] at hr0; exact absurd rfl hr0
        have hjl : j < l.length := by
          have := congrArg List.length e
          rw [List.length_drop, List.length_cons] at this
          omega
        refine ⟨fun σ' H'' => σ' = [some (.ref a), some (.int (least : Nat)), some (mostV most), some (.str (SX' (F ++ [c])))] ∧ H'' = upd H a (.ins T.oc_Reader dx (kR l (j + 1))), ?_, ?_⟩
        · rintro σ' H'' ⟨rfl, rfl⟩
          refine ⟨l.length - (j + 1), by omega, j + 1, F ++ [c], rfl, rfl, by omega, rfl, ?_, by rw [List.length_append, List.length_singleton]; omega, ?_⟩
          · rw [← hF, e, drop_step e, List.append_assoc, List.length_append, List.length_singleton]
            congr 1
            cases most with
            | none => simp only [Option.map_none]; rw [runM_yes hc]; rfl
            | some mm =>
              obtain ⟨k, ek⟩ : ∃ k, mm - F.length = k + 1 := by
                cases ek : mm - F.length with
                | zero => rw [Option.map_some, ek, runM_zero] at hr0; exact absurd rfl hr0
                | succ k => exact ⟨k, rfl⟩
              rw [Option.map_some, Option.map_some, ek, runM_yes' hc, show mm - (F.length + 1) = k by omega]; rfl
          · rintro mm rfl
            rw [List.length_append, List.length_singleton]
            cases ek : mm - F.length with
            | zero => rw [Option.map_some, ek, runM_zero] at hr0; exact absurd rfl hr0
            | succ k => omega
        · refine ⟨_, rfl, val_sgn rfl hj hl _ ?_⟩
          rw [e]
          refine ⟨_, _, rfl, rfl, ?_, ?_⟩
          · rw [sx'_len, sx'_len, sizeLine_eq]
            unfold rdMost at hl
            show F.length + 1 ≤ _
            omega
          refine ⟨_, rfl, a, _, dx, _, _, rfl, upd_same, T.ocl_Reader, T.ra, kR_at, _, _, rfl, rfl, _, rfl, a, _, dx, _, rfl, upd_same, T.ocl_Reader, T.ra, (by show 2 < 1000; omega), ?_⟩
          rw [upd_upd]
          exact ⟨by rw [show SX' F ++ SX' (List.take 1 (c :: r)) = SX' (F ++ [c]) by show (⟨F.toArray ++ [c].toArray⟩ : Str) = _; simp]; rfl, rfl⟩
theorem ok_Reader_front (T : Txt w K mg) : FnOk P w K mg base (L2.CX P w) 5 T.a_Reader_front T.d_Reader_front ["self"] (spR T.oc_Reader T.c_InvalidText 0 r_front) :=
  T.f_Reader_front.F.okX (k := 4) sc_Reader_front (fun vs H Q E h => spR_len h) fun cdv A outer s H vs Q E hr h => by
    obtain ⟨a, dx, l, n, us, Q0, W0, rfl, hu, ha, hn, hl, q, hq, hw⟩ := h
    cases List.length_eq_zero_iff.mp hu
    have tk := takes_of (X := cxOf (L2.CX P w) P w K mg base ["self", "found"] "Reader.front" (defScope s_Reader_front) T.a_Reader_front cdv A outer s H E) rfl rfl rfl rfl
    have hM : Meth K T.oc_Reader "sign" T.a_Reader_sign := ⟨T.om_Reader_sign.at_, T.om_Reader_sign.fn, T.om_Reader_sign.kp⟩
    have hD : Meth K T.oc_Reader "digits" T.a_Reader_digits := ⟨T.om_Reader_digits.at_, T.om_Reader_digits.fn, T.om_Reader_digits.kp⟩
    have hT : Meth K T.oc_Reader "take" T.a_Reader_take := ⟨T.om_Reader_take.at_, T.om_Reader_take.fn, T.om_Reader_take.kp⟩
    refine ⟨_, pss_cons (ps_if (pt_cmpR op_eq (pe_methS0 (pv 0) T.ocl_Reader hM (ok_Reader_sign T) (hr.mono (by decide)) T.f_Reader_sign.b (fun σ => passAt tk σ)) pe_str (nomark _)) (pss_one (ps_ret (pe_methS (pv 0) T.ocl_Reader hD (ok_Reader_digits T) (hr.mono (by decide)) T.f_Reader_digits.b (fun σ => passAt tk σ) (pa_cons pe_int (pa_cons pe_int pa_nil))))) pss_nil)
      (pss_cons (ps_asg (pe_methS (pv 0) T.ocl_Reader hD (ok_Reader_digits T) (hr.mono (by decide)) T.f_Reader_digits.b (fun σ => passAt tk σ) (pa_cons pe_int (pa_cons pe_non pa_nil))) (pg_name (i := 1) sc_Reader_front.nd rfl (Or.inl rfl)))
      (pss_cons (ps_if (pt_cmpR op_le (pe_callB call_len (by rfl) T.n_len PySem.boot_len (pa_cons (pv 1) pa_nil)) pe_int (nomark _))
        (pss_one (ps_while (passes_of rfl) (pt_val (pe_methS (pv 0) T.ocl_Reader hT (ok_Reader_take T) (hr.mono (by decide)) T.f_Reader_take.b (fun σ => passAt tk σ) (pa_cons pe_str pa_nil)) (by intro _; rfl)) (pss_one (ps_asg (pe_op op_add_str (pv 1) (pe_methS (pv 0) T.ocl_Reader hD (ok_Reader_digits T) (hr.mono (by decide)) T.f_Reader_digits.b (fun σ => passAt tk σ) (pa_cons pe_int (pa_cons pe_int pa_nil)))) (pg_name (i := 1) sc_Reader_front.nd rfl (Or.inl rfl)))))) pss_nil)
      (pss_one (ps_ret (pv 1))))), ?_⟩
    rw [← upd_self ha]
    unfold r_front frontF at q
    refine ans_go (ans_sgn_eq (k := 48) rfl hn hl nought_e) ?_
    by_cases h0 : (l.drop n).head? = some 48
    · rw [if_pos h0] at q
      rw [decide_eq_true h0]
      refine iteT (rd_m2 rfl (kR_no (by decide) (by decide)) hn hl ⟨1, some 1, rfl, ?_⟩)
      rw [run1_48 h0, if_neg (by decide)]
      exact hq _ _ q
    rw [if_neg h0] at q
    rw [decide_eq_false h0]
    refine iteF (rd_m2 rfl (kR_no (by decide) (by decide)) hn hl ⟨1, none, rfl, ?_⟩)
    show if (runD (l.drop n)).length < 1 then _ else _
    by_cases h1 : (runD (l.drop n)).length < 1
    · rw [if_pos h1] at q ⊢
      have e : (runD (l.drop n)).length = 0 := by omega
      refine fun j d hd => hw j _ ?_ d hd
      show W0 (n + (runD (l.drop n)).length)
      rw [e]
      exact q
    rw [if_neg h1] at q ⊢
    have hlen : n + (runD (l.drop n)).length ≤ l.length := by
      have h := runM_len (r := l.drop n) (o := none)
      rw [List.length_drop] at h
      have h : (runD (l.drop n)).length ≤ l.length - n := h
      omega
    have hFl : (runD (l.drop n)).length ≤ rdMost := by omega
    have vl : Val (tCB (rLenB K) (tCons (tVar 1) tNil)) [some (.ref a), some (.str (SX' (runD (l.drop n))))] (upd H a (.ins T.oc_Reader dx (kR l (n + (runD (l.drop n)).length)))) (.int (runD (l.drop n)).length) := fun Q q => ⟨_, rfl, _, _, rfl, ⟨sx_line hFl, sx'_len.symm⟩, q⟩
    refine ans_cmp (b := decide (((runD (l.drop n)).length : Int) ≤ 3)) vl val_c (fun Q q => ⟨_, _, rfl, rfl, q⟩) _ ?_
    by_cases h3 : (runD (l.drop n)).length ≤ 3
    · rw [if_pos h3] at q
      rw [if_pos (decide_eq_true (by exact_mod_cast h3))]
      refine ⟨fun m σ H' => ∃ (j k : Nat) (F : List Nat), σ = [some (.ref a), some (.str (SX' F))] ∧ H' = upd H a (.ins T.oc_Reader dx (kR l j)) ∧ j ≤ l.length ∧ m = l.length - j ∧ F.length ≤ j ∧ (l.drop j).length ≤ k ∧
        (match grpF k (l.drop j) with
          | .inl (ds, i) => Q0 (.str (SX' (F ++ ds))) (j + i)
          | .inr i => W0 (j + i)), ⟨_, n + (runD (l.drop n)).length, (l.drop n).length, runD (l.drop n), rfl, rfl, hlen, rfl, by omega, by rw [List.length_drop, List.length_drop]; omega, ?_⟩, ?_⟩
      · rw [← List.drop_drop]
        cases e : grpF (l.drop n).length ((l.drop n).drop (runD (l.drop n)).length) with
        | inl p => rw [e] at q; dsimp only at q ⊢; rw [Nat.add_assoc]; exact q
        | inr i => rw [e] at q; dsimp only at q ⊢; rw [Nat.add_assoc]; exact q
      · rintro m σ H' ⟨j, k, F, rfl, rfl, hj, rfl, hFj, hk, q⟩
        refine rd_m1 rfl (kR_no (by decide) (by decide)) hj hl ⟨[44], by rw [comma_e], ?_⟩
        cases e : (l.drop j).head? with
        | none =>
          have e2 : grpF k (l.drop j) = .inl ([], 0) := by
            cases k with
            | zero => rfl
            | succ k => unfold grpF; rw [if_neg (by rw [e]; exact fun z => nomatch z)]
          rw [e2] at q
          dsimp only at q ⊢
          rw [List.append_nil] at q
          exact ⟨_, rfl, iteF ⟨_, rfl, hq _ _ q⟩⟩
        | some c =>
          by_cases hc : c = 44
          · subst hc
            dsimp only
            rw [if_pos (List.mem_singleton.mpr rfl)]
            obtain ⟨k, rfl⟩ : ∃ k', k = k' + 1 := by
              cases k with
              | zero =>
                rw [List.length_eq_zero_iff.mp (Nat.le_zero.mp hk)] at e
                cases e
              | succ k => exact ⟨k, rfl⟩
            unfold grpF at q
            rw [if_pos e, List.drop_drop, List.drop_drop] at q
            have hjl : j < l.length := by
              cases e2 : l.drop j with
              | nil => rw [e2] at e; cases e
              | cons c r =>
                have := congrArg List.length e2
                rw [List.length_drop, List.length_cons] at this
                omega
            refine ⟨_, rfl, iteT ⟨fun σ' H'' => σ' = [some (.ref a), some (.str (SX' (F ++ runM (l.drop (j + 1)) (some 3))))] ∧ H'' = upd H a (.ins T.oc_Reader dx (kR l (j + 4))) ∧ ¬ (runM (l.drop (j + 1)) (some 3)).length < 3, ?_, ?_⟩⟩
            · rintro σ' H'' ⟨rfl, rfl, h3⟩
              rw [if_neg h3] at q
              have e3 := runM3 h3
              have hj4 : j + 4 ≤ l.length := by
                have := runM_len (r := l.drop (j + 1)) (o := some 3)
                rw [e3, List.length_drop] at this
                omega
              refine ⟨l.length - (j + 4), by omega, j + 4, k, _, rfl, rfl, hj4, rfl, by rw [List.length_append, e3]; omega, by rw [List.length_drop] at hk ⊢; omega, ?_⟩
              cases e4 : grpF k (l.drop (j + 4)) with
              | inl p => rw [e4] at q; dsimp only at q ⊢; rw [List.append_assoc, show j + 4 + p.2 = j + (p.2 + 4) by omega]; exact q
              | inr i => rw [e4] at q; dsimp only at q ⊢; rw [show j + 4 + i = j + (i + 4) by omega]; exact q
            · refine ⟨_, rfl, rd_m2 rfl (kR_no (by decide) (by decide)) hjl hl ⟨3, some 3, rfl, ?_⟩⟩
              by_cases h3 : (runM (l.drop (j + 1)) (some 3)).length < 3
              · rw [if_pos h3] at q ⊢
                refine fun j' d hd => hw j' _ ?_ d hd
                dsimp only at q
                rw [show j + 1 + (runM (l.drop (j + 1)) (some 3)).length = j + (1 + (runM (l.drop (j + 1)) (some 3)).length) by omega]
                exact q
              · rw [if_neg h3]
                have e3 := runM3 h3
                refine ⟨_, _, rfl, rfl, ?_, ?_⟩
                · rw [sx'_len, sx'_len, sizeLine_eq]
                  unfold rdMost at hl
                  omega
                · rw [sx'_app, show j + 1 + (runM (l.drop (j + 1)) (some 3)).length = j + 4 by omega]
                  exact ⟨rfl, rfl, h3⟩
          · have e2 : grpF k (l.drop j) = .inl ([], 0) := by
              cases k with
              | zero => rfl
              | succ k => unfold grpF; rw [if_neg (by rw [e]; exact fun z => hc (Option.some.inj z))]
            rw [e2] at q
            dsimp only at q ⊢
            rw [List.append_nil] at q
            rw [if_neg (fun z => hc (List.mem_singleton.mp z))]
            exact ⟨_, rfl, iteF ⟨_, rfl, hq _ _ q⟩⟩
    · rw [if_neg h3] at q
      rw [if_neg (fun z => h3 (by exact_mod_cast of_decide_eq_true z))]
      exact ⟨_, rfl, hq _ _ q⟩
theorem ok_read_text (T : Txt w K mg) : FnD P w K mg base T.ct 6 T.a_read_text T.d_read_text ["text"] 0 m_read_text :=
  FnD.cost (fn_data (k := 5) (c := 0 + (0 + 0 + (0 + 0 + 0))) T.f_read_text.F sc_read_text fun cdv A outer s H E f hK hct hn hr => by
    refine cs_cons (cs_if (ct_not (ct_truth hK (ce_isi hK (T := "str") (by decide) (by rfl) T.n_isinstance (by rfl) T.n_str (by decide +kernel) (ce_var 0)))) (cs_one (cs_raiseI hct rfl (takes_of rfl rfl rfl rfl) T.e_InvalidText (ok_InvalidText___init__ T) (hr.mono (by decide)) T.f_InvalidText___init__.b (by rfl) (by decide) (by decide) (ca_cons ce_int ca_nil))) cs_nil) ?_
    have tk := takes_of (X := cxOf (L2.CX P w) P w K mg base ["text", "reader", "is_negative", "digits", "rest", "figure", "digit"] "read_text" (defScope s_read_text) T.a_read_text cdv A outer s H E) rfl rfl rfl rfl
    have hM : Meth K T.oc_Reader "sign" T.a_Reader_sign := ⟨T.om_Reader_sign.at_, T.om_Reader_sign.fn, T.om_Reader_sign.kp⟩
    have hD : Meth K T.oc_Reader "digits" T.a_Reader_digits := ⟨T.om_Reader_digits.at_, T.om_Reader_digits.fn, T.om_Reader_digits.kp⟩
    have hT : Meth K T.oc_Reader "take" T.a_Reader_take := ⟨T.om_Reader_take.at_, T.om_Reader_take.fn, T.om_Reader_take.kp⟩
    have hF : Meth K T.oc_Reader "fail" T.a_Reader_fail := ⟨T.om_Reader_fail.at_, T.om_Reader_fail.fn, T.om_Reader_fail.kp⟩
    have hO : Meth K T.oc_Reader "front" T.a_Reader_front := ⟨T.om_Reader_front.at_, T.om_Reader_front.fn, T.om_Reader_front.kp⟩
    obtain ⟨tp, hmp⟩ := T.y_MOST_PLACES
    have tail : CB f (cxOf (L2.CX P w) P w K mg base ["text", "reader", "is_negative", "digits", "rest", "figure", "digit"] "read_text" (defScope s_read_text) T.a_read_text cdv A outer s H E) (fun cls d _ H => E cls d H) (0 + (0 + 0 + (0 + 0 + 0))) ((defBody s_read_text).drop 9) m_read_tail :=
      (cs_cons (cs_asg (i := 5) sc_read_text.nd ce_int)
      (cs_cons (cs_forTx hK (passes_of rfl) rfl (ce_op hK op_addD od_add (ce_var 3) (ce_var 4)) (pg_name (i := 6) sc_read_text.nd rfl (by first | exact Or.inl rfl | exact Or.inr rfl)) (fun f1 hf1 => ⟨_, tg_name⟩) (fun f1 hf1 => (cs_one (cs_asg (i := 5) sc_read_text.nd (ce_op (hk2 hf1 hK) op_addD od_add (ce_op (hk2 hf1 hK) op_mulD od_mul (ce_var 5) ce_int) (ce_sindex (hk2 hf1 hK) (T.x_DIGITS (by rfl) (hk2 hf1 hK)) (ce_var 6)))))))
      (cs_one (cs_ret hn (ce_tup (ca_cons (ce_if (ct_truth hK (ce_var 2)) (ce_un hK un_neg ud_neg (ce_var 5)) (ce_var 5)) (ca_cons (ce_blt hK call_len cd_len (by rfl) T.n_len (by decide +kernel) (ca_cons (ce_var 4) ca_nil)) ca_nil)))))))
    refine PSs.imp (pss_cons (ps_asg (pe_makeS ⟨T.omk_Reader.makes, T.omk_Reader.init, T.omk_Reader.fn, T.omk_Reader.kp⟩ (ok_Reader___init__ T) (hr.mono (by decide)) (by rfl) T.og_Reader T.f_Reader___init__.b (fun σ => passAt tk σ) (pa_cons (pv 0) pa_nil)) (pg_name (i := 1) sc_read_text.nd rfl (Or.inl rfl)))
      (pss_cons (ps_while (passes_of rfl) (pt_cmpR op_eq (pe_methS0 (pv 1) T.ocl_Reader hM (ok_Reader_sign T) (hr.mono (by decide)) T.f_Reader_sign.b (fun σ => passAt tk σ)) pe_str (nomark _)) (pss_one (ps_fld (pv 1) (pe_op op_add (pe_fld (pv 1) rfl) pe_int) rfl)))
      (pss_cons (ps_asg (pe_methS (pv 1) T.ocl_Reader hT (ok_Reader_take T) (hr.mono (by decide)) T.f_Reader_take.b (fun σ => passAt tk σ) (pa_cons pe_str pa_nil)) (pg_name (i := 2) sc_read_text.nd rfl (Or.inl rfl)))
      (pss_cons (ps_if (pt_not (pt_val (pv 2) (by intro _; rfl))) (pss_one (ps_expr (pe_methS (pv 1) T.ocl_Reader hT (ok_Reader_take T) (hr.mono (by decide)) T.f_Reader_take.b (fun σ => passAt tk σ) (pa_cons pe_str pa_nil)) rfl)) pss_nil)
      (pss_cons (ps_asg (pe_methS0 (pv 1) T.ocl_Reader hO (ok_Reader_front T) (hr.mono (by decide)) T.f_Reader_front.b (fun σ => passAt tk σ)) (pg_name (i := 3) sc_read_text.nd rfl (Or.inl rfl)))
      (pss_cons (ps_asg pe_str (pg_name (i := 4) sc_read_text.nd rfl (Or.inl rfl)))
      (pss_cons (ps_if (pt_val (pe_methS (pv 1) T.ocl_Reader hT (ok_Reader_take T) (hr.mono (by decide)) T.f_Reader_take.b (fun σ => passAt tk σ) (pa_cons pe_str pa_nil)) (by intro _; rfl)) (pss_one (ps_asg (pe_methS (pv 1) T.ocl_Reader hD (ok_Reader_digits T) (hr.mono (by decide)) T.f_Reader_digits.b (fun σ => passAt tk σ) (pa_cons pe_int (pa_cons (pe_glob (v := .int 60) (by rfl) hmp ⟨tp, rfl⟩) pa_nil))) (pg_name (i := 4) sc_read_text.nd rfl (Or.inl rfl)))) pss_nil)
      (pss_cons (ps_if (pt_cmpR op_ne (pe_methS0 (pv 1) T.ocl_Reader hM (ok_Reader_sign T) (hr.mono (by decide)) T.f_Reader_sign.b (fun σ => passAt tk σ)) pe_str (nomark _)) (pss_one (ps_expr (pe_methS0 (pv 1) T.ocl_Reader hF (ok_Reader_fail T) (hr.mono (by decide)) T.f_Reader_fail.b (fun σ => passAt tk σ)) rfl)) pss_nil)
        tail)))))))) fun De σ H1 h => ?_
    obtain ⟨B, n, ρ, E0, R, hm, hnx, hrt, hbk, hcn, hx⟩ := h
    unfold mReadT at hm
    split at hm
    rotate_left
    · exact hm.elim
    rename_i z y1 y2 y3 y4 y5 y6
    obtain ⟨hl, hm⟩ := hm
    obtain ⟨l, rfl⟩ : ∃ l, z = SX' l := ⟨z.cps.toList, by cases z; simp⟩
    rw [sx'_len] at hl
    have elx : (SX' l).cps.toList = l := by simp
    rw [elx] at hm
    obtain ⟨x0, x1, x2, x3, x4, x5, x6, rfl⟩ := len7 R.len
    obtain ⟨v0, e0, r0⟩ := R.sl 0 _ x0 rfl rfl
    subst e0
    cases r0
    refine ⟨_, rfl, fun a dx ha hdx hne => ⟨a, dx, l, rfl, upd_same, rfl, ?_⟩⟩
    rw [upd_upd]
    obtain ⟨H0, hH0⟩ : ∃ H0, H0 = upd H1 dx (.own a) := ⟨_, rfl⟩
    rw [← hH0]
    have gw : ∀ j, Gw H1 (upd H0 a (.ins T.oc_Reader dx (kR l j))) := fun j b o h => by
      rw [upd_ne (ne_of_none h ha), hH0, upd_ne (ne_of_none h hdx)]
      exact h
    have nnB : ∀ j d, upd H0 a (.ins T.oc_Reader dx (kR l j)) d = none → ¬ B d := fun j d hd hb => by
      cases e : H1 d with
      | none => exact R.ok.dom d hb e
      | some o => rw [gw j d o e] at hd; cases hd
    have err : ∀ (k : Nat), E0.ex [.dat (.str (SX' l)), y1, y2, y3, y4, y5, y6] ⟨"InvalidText", [("at", .int (k : Nat))]⟩ → ∀ j d, upd H0 a (.ins T.oc_Reader dx (kR l j)) d = none →
        E (.ref T.c_InvalidText) (some d) (upd (upd H0 a (.ins T.oc_Reader dx (kR l j))) d (.xd [("at", .int (k : Nat))])) := fun k q j d hd => by
      have g2 : Gw H1 (upd (upd H0 a (.ins T.oc_Reader dx (kR l j))) d (.xd [("at", .int (k : Nat))])) := (gw j).trans (Gw.new hd)
      exact hx B _ _ _ _ _ _ q (R.kp g2.kp (g2.src R.ok.src)) ⟨T.c_InvalidText, hct ▸ T.e_InvalidText.ct, rfl, .inr ⟨d, _, rfl, upd_same, nnB j d hd, .cons (.int _) .nil, fun z => nomatch z⟩⟩
    refine ⟨fun m σ' H' => ∃ j, σ' = [some (.str (SX' l)), some (.ref a), x2, x3, x4, x5, x6] ∧ H' = upd H0 a (.ins T.oc_Reader dx (kR l j)) ∧ j ≤ l.length ∧ m = l.length - j ∧ j + blanks (l.drop j) = blanks l, ⟨_, 0, rfl, rfl, Nat.zero_le _, rfl, by rw [List.drop_zero, Nat.zero_add]⟩, ?_⟩
    rintro m σ' H' ⟨j, rfl, rfl, hj, rfl, hb⟩
    refine ans_go (ans_sgn_eq (k := 32) rfl hj hl blank_e) ?_
    by_cases h32 : (l.drop j).head? = some 32
    · rw [decide_eq_true h32]
      have hjl := head_lt h32
      refine iteT ⟨fun σ' H' => σ' = [some (.str (SX' l)), some (.ref a), x2, x3, x4, x5, x6] ∧ H' = upd H0 a (.ins T.oc_Reader dx (kR l (j + 1))), ?_, ?_⟩
      · rintro σ' H' ⟨rfl, rfl⟩
        exact ⟨l.length - (j + 1), by omega, j + 1, rfl, rfl, by omega, rfl, by have := blanks_step h32; omega⟩
      · refine ⟨_, rfl, a, _, dx, _, _, rfl, upd_same, T.ocl_Reader, T.ra, kR_at, _, _, rfl, rfl, _, rfl, a, _, dx, _, rfl, upd_same, T.ocl_Reader, T.ra, (by show 2 < 1000; omega), ?_⟩
        rw [upd_upd]
        exact ⟨rfl, rfl⟩
    rw [decide_eq_false h32]
    refine iteF ?_
    rw [blanks_stop h32, Nat.add_zero] at hb
    subst hb
    refine rd_m1 rfl (kR_no (by decide) (by decide)) blanks_le hl (take1 minus_e ?_)
    refine plus_step rfl rfl hl ?_
    refine rd_m0 rfl (kR_no (by decide) (by decide)) signAt_le hl ?_
    unfold readP at hm
    cases ef : frontF (l.drop (signAt l)) with
    | inr k =>
      rw [ef] at hm
      exact front_inr ef fun j d hd => err _ hm j d hd
    | inl p =>
    obtain ⟨ds, k⟩ := p
    rw [ef] at hm
    dsimp only at hm
    refine front_inl ef ?_
    have hk := frontF_le ef
    rw [List.length_drop] at hk
    have hsl := signAt_le (l := l)
    have hml : signAt l + k ≤ l.length := by omega
    refine rd_m1 rfl (kR_no (by decide) (by decide)) hml hl (take1 point_e ?_)
    unfold endP at hm
    have fin : ∀ (neg : Bool) (rest : List Nat) (e : Nat), m_read_tail [.dat (.str (SX' l)), .un, .dat (.bl neg), .dat (.str (SX' ds)), .dat (.str (SX' rest)), y5, y6] E0 →
        RS f (fun cls d _ H => E cls d H) (0 + (0 + 0 + (0 + 0 + 0))) m_read_tail De [some (.str (SX' l)), some (.ref a), some (.bl neg), some (.str (SX' ds)), some (.str (SX' rest)), x5, x6] (upd H0 a (.ins T.oc_Reader dx (kR l e))) := fun neg rest e q => by
      have R2 := R.kp (gw e).kp ((gw e).src R.ok.src)
      refine ⟨B, n, _, E0, ⟨R2.ok, rfl, fun i x o e1 e2 => ?_, fun i j p x y ne e1 o1 e2 o2 => ?_⟩, q, hnx, hrt, hbk, hcn, hx⟩
      · match i, e1, e2 with
        | 0, e1, e2 => cases e1; cases e2; exact ⟨_, rfl, .str _⟩
        | 1, e1, e2 => cases e1; trivial
        | 2, e1, e2 => cases e1; cases e2; exact ⟨_, rfl, .bl _⟩
        | 3, e1, e2 => cases e1; cases e2; exact ⟨_, rfl, .str _⟩
        | 4, e1, e2 => cases e1; cases e2; exact ⟨_, rfl, .str _⟩
        | 5, e1, e2 => exact R2.sl 5 x o e1 e2
        | 6, e1, e2 => exact R2.sl 6 x o e1 e2
      · intro e3 e4
        match i, j, e1, e2 with
        | 0, j, e1, e2 => cases e1; cases o1
        | 1, j, e1, e2 => cases e1; cases o1
        | 2, j, e1, e2 => cases e1; cases o1
        | 3, j, e1, e2 => cases e1; cases o1
        | 4, j, e1, e2 => cases e1; cases o1
        | i + 5, 0, e1, e2 => cases e2; cases o2
        | i + 5, 1, e1, e2 => cases e2; cases o2
        | i + 5, 2, e1, e2 => cases e2; cases o2
        | i + 5, 3, e1, e2 => cases e2; cases o2
        | i + 5, 4, e1, e2 => cases e2; cases o2
        | i + 5, j + 5, e1, e2 => exact R2.inj (i + 5) (j + 5) p x y ne e1 o1 e2 o2 e3 e4
    by_cases h46 : (l.drop (signAt l + k)).head? = some 46
    · rw [if_pos h46] at hm
      rw [if_pos h46, decide_eq_true h46]
      have hm46 := head_lt h46
      refine ⟨_, rfl, iteT (rd_m2 rfl (kR_no (by decide) (by decide)) (show signAt l + k + 1 ≤ l.length by omega) hl ⟨1, some 60, rfl, ?_⟩)⟩
      by_cases h1 : (runM (l.drop (signAt l + k + 1)) (some 60)).length < 1
      · rw [if_pos h1] at hm ⊢
        exact fun j d hd => err _ hm j d hd
      rw [if_neg h1] at hm ⊢
      have l1 := runM_len (r := l.drop (signAt l + k + 1)) (o := some 60)
      rw [List.length_drop] at l1
      dsimp only at hm
      refine fin_step rfl (show signAt l + k + 1 + (runM (l.drop (signAt l + k + 1)) (some 60)).length ≤ l.length by omega) hl (fun h => ?_) (fun h => ?_)
      · rw [if_pos h] at hm
        exact fun j d hd => err _ hm j d hd
      · rw [if_neg h] at hm
        exact fin _ _ _ hm
    · rw [if_neg h46] at hm
      rw [if_neg h46, decide_eq_false h46]
      dsimp only at hm
      refine ⟨_, rfl, iteF ?_⟩
      refine fin_step rfl hml hl (fun h => ?_) (fun h => ?_)
      · rw [if_pos h] at hm
        exact fun j d hd => err _ hm j d hd
      · rw [if_neg h] at hm
        have := fin _ [] (signAt l + k) hm
        rw [← str_e'] at this
        exact this) (by decide)

theorem ok_law_great (T : Txt w K mg) : FnD P w K mg base T.ct 2 T.a_law_great T.d_law_great ["_law_source_here", "_law_digits"] 4611686018427387904 m_law_great :=
  FnD.cost (fn_data (k := 1) T.f_law_great.F sc_law_great fun cdv A outer s H E f hK hct hn hr =>
    (cs_cons (cs_asg (i := 2) sc_law_great.nd ce_int)
    (cs_cons (cs_range1 (passes_of rfl) rfl (by rfl) T.n_range (ce_var 1) (pg_name (i := 3) sc_law_great.nd rfl (by first | exact Or.inl rfl | exact Or.inr rfl)) (fun f1 hf1 => ⟨_, tg_name⟩) (fun f1 hf1 => (cs_one (cs_asg (i := 2) sc_law_great.nd (ce_op (hk2 hf1 hK) op_addD od_add (ce_op (hk2 hf1 hK) op_mulD od_mul (ce_var 2) ce_int) (ce_call (ok_law_draw T) (hc2 hf1 hct) (hk2 hf1 hK) (takes_of rfl rfl rfl rfl) (hr.mono (by decide)) (by rfl) T.f_law_draw.g T.f_law_draw.F.kp T.f_law_draw.b (ca_cons (ce_var 0) (ca_cons ce_int ca_nil))))))))
    (cs_one (cs_ret hn (ce_var 2)))))) (by decide +kernel)
theorem ok_law (T : Txt w K mg) : FnOk P w K mg base (L2.CX P w) 7 T.a_law T.d_law ["_law_script"] (spLaw K 6 m_law) :=
  fn_law (k := 6) (ct := T.ct) T.f_law.F sc_law rfl (by decide +kernel) rfl ((ok_law_source T).mono (by decide)) T.f_law_source.g T.f_law_source.F.kp T.f_law_source.b rfl rfl rfl (by first | exact Or.inl rfl | exact Or.inr rfl) rfl (by decide) (by decide) (by decide)
    fun cdv A outer s H E f hK hct hn hr =>
    (cs_cons (cs_range1 (passes_of rfl) rfl (by rfl) T.n_range ce_int (pg_name (i := 2) sc_law.nd rfl (by first | exact Or.inl rfl | exact Or.inr rfl)) (fun f1 hf1 => ⟨_, tg_name⟩) (fun f1 hf1 => (cs_cons (cs_asg (i := 3) sc_law.nd (ce_op (hk2 hf1 hK) op_mulD od_mul (ce_call (ok_law_great T) (hc2 hf1 hct) (hk2 hf1 hK) (takes_of rfl rfl rfl rfl) (hr.mono (by decide)) (by rfl) T.f_law_great.g T.f_law_great.F.kp T.f_law_great.b (ca_cons (ce_var 1) (ca_cons (ce_call (ok_law_pick T) (hc2 hf1 hct) (hk2 hf1 hK) (takes_of rfl rfl rfl rfl) (hr.mono (by decide)) (by rfl) T.f_law_pick.g T.f_law_pick.F.kp T.f_law_pick.b (ca_cons (ce_var 1) (ca_cons (ce_lst (ca_cons ce_int (ca_cons ce_int (ca_cons ce_int (ca_cons ce_int (ca_cons ce_int (ca_cons ce_int (ca_cons ce_int (ca_cons ce_int ca_nil))))))))) ca_nil))) ca_nil))) (ce_call (ok_law_pick T) (hc2 hf1 hct) (hk2 hf1 hK) (takes_of rfl rfl rfl rfl) (hr.mono (by decide)) (by rfl) T.f_law_pick.g T.f_law_pick.F.kp T.f_law_pick.b (ca_cons (ce_var 1) (ca_cons (ce_lst (ca_cons ce_int (ca_cons (ce_un (hk2 hf1 hK) un_neg ud_neg ce_int) ca_nil))) ca_nil)))))
    (cs_cons (cs_asg (i := 4) sc_law.nd (ce_call (ok_law_pick T) (hc2 hf1 hct) (hk2 hf1 hK) (takes_of rfl rfl rfl rfl) (hr.mono (by decide)) (by rfl) T.f_law_pick.g T.f_law_pick.F.kp T.f_law_pick.b (ca_cons (ce_var 1) (ca_cons (ce_lst (ca_cons ce_int (ca_cons ce_int (ca_cons ce_int (ca_cons ce_int (ca_cons ce_int (ca_cons ce_int (ca_cons ce_int (ca_cons ce_int ca_nil))))))))) ca_nil))))
    (cs_cons (cs_for (hk2 hf1 hK) (passes_of rfl) rfl (ce_call (ok_law_styles T) (hc2 hf1 hct) (hk2 hf1 hK) (takes_of rfl rfl rfl rfl) (hr.mono (by decide)) (by rfl) T.f_law_styles.g T.f_law_styles.F.kp T.f_law_styles.b (ca_cons (ce_var 3) (ca_cons (ce_var 4) ca_nil))) (pg_name (i := 5) sc_law.nd rfl (by first | exact Or.inl rfl | exact Or.inr rfl)) (fun f2 hf2 => ⟨_, tg_name⟩) (fun f2 hf2 => (cs_one (cs_if (ct_w (cw_or (ct_cmp (hk2 hf2 (hk2 hf1 hK)) (op_neDD hr.units) od_ne (ce_call (ok_read_text T) (hc2 hf2 (hc2 hf1 hct)) (hk2 hf2 (hk2 hf1 hK)) (takes_of rfl rfl rfl rfl) (hr.mono (by decide)) (by rfl) T.f_read_text.g T.f_read_text.F.kp T.f_read_text.b (ca_cons (ce_var 5) ca_nil)) (ce_tup (ca_cons (ce_var 3) (ca_cons (ce_var 4) ca_nil)))) (cw_or1 (ct_cmp (hk2 hf2 (hk2 hf1 hK)) (op_neDD hr.units) od_ne (ce_call (ok_read_text T) (hc2 hf2 (hc2 hf1 hct)) (hk2 hf2 (hk2 hf1 hK)) (takes_of rfl rfl rfl rfl) (hr.mono (by decide)) (by rfl) T.f_read_text.g T.f_read_text.F.kp T.f_read_text.b (ca_cons (ce_op (hk2 hf2 (hk2 hf1 hK)) op_addD od_add ce_str (ce_var 5)) ca_nil)) (ce_tup (ca_cons (ce_var 3) (ca_cons (ce_var 4) ca_nil))))))) (cs_one (cs_ret (hn2 hf2 (hn2 hf1 hn)) ce_bl)) cs_nil))))
    (cs_cons (cs_asg (i := 6) sc_law.nd (ce_call (ok_law_pick T) (hc2 hf1 hct) (hk2 hf1 hK) (takes_of rfl rfl rfl rfl) (hr.mono (by decide)) (by rfl) T.f_law_pick.g T.f_law_pick.F.kp T.f_law_pick.b (ca_cons (ce_var 1) (ca_cons (ce_lst (ca_cons (ce_var 3) (ca_cons (ce_op (hk2 hf1 hK) op_addD od_add (ce_var 3) ce_int) (ca_cons (ce_un (hk2 hf1 hK) un_neg ud_neg (ce_var 3)) (ca_cons (ce_op (hk2 hf1 hK) op_mulD od_mul (ce_var 3) ce_int) (ca_cons (ce_op (hk2 hf1 hK) op_sub od_sub (ce_var 3) ce_int) ca_nil)))))) ca_nil))))
    (cs_cons (cs_if (ct_cmp (hk2 hf1 hK) (op_neDD hr.units) od_ne (ce_cmp (hk2 hf1 hK) (op_eqDD hr.units) od_eq (ce_callK (ok_text_of T) (hc2 hf1 hct) (hk2 hf1 hK) (takes_of rfl rfl rfl rfl) (hr.mono (by decide)) (by rfl) T.f_text_of.g T.f_text_of.F.kp T.kb_text_of_1 (fun _ _ _ => (.cons (.bl _) (.cons (.bl _) (.cons (.int _) .nil)))) (ca_cons (ce_var 3) (ca_cons (ce_var 4) ca_nil)) cq_nil) (ce_callK (ok_text_of T) (hc2 hf1 hct) (hk2 hf1 hK) (takes_of rfl rfl rfl rfl) (hr.mono (by decide)) (by rfl) T.f_text_of.g T.f_text_of.F.kp T.kb_text_of_1 (fun _ _ _ => (.cons (.bl _) (.cons (.bl _) (.cons (.int _) .nil)))) (ca_cons (ce_var 6) (ca_cons (ce_var 4) ca_nil)) cq_nil)) (ce_cmp (hk2 hf1 hK) (op_eqDD hr.units) od_eq (ce_var 3) (ce_var 6))) (cs_one (cs_ret (hn2 hf1 hn) ce_bl)) cs_nil)
    (cs_cons (cs_asg (i := 7) sc_law.nd (ce_op (hk2 hf1 hK) op_addD od_add ce_str (ce_callK (ok_text_of T) (hc2 hf1 hct) (hk2 hf1 hK) (takes_of rfl rfl rfl rfl) (hr.mono (by decide)) (by rfl) T.f_text_of.g T.f_text_of.F.kp T.kb_text_of_1 (fun _ _ _ => (.cons (.bl _) (.cons (.bl _) (.cons (.int _) .nil)))) (ca_cons ce_int (ca_cons (ce_var 4) ca_nil)) cq_nil)))
    (cs_one (cs_if (ct_w (cw_or (ct_cmp (hk2 hf1 hK) (op_neDD hr.units) od_ne (ce_call (ok_read_text T) (hc2 hf1 hct) (hk2 hf1 hK) (takes_of rfl rfl rfl rfl) (hr.mono (by decide)) (by rfl) T.f_read_text.g T.f_read_text.F.kp T.f_read_text.b (ca_cons (ce_var 7) ca_nil)) (ce_tup (ca_cons ce_int (ca_cons (ce_var 4) ca_nil)))) (cw_or1 (ct_cmp (hk2 hf1 hK) (op_neDD hr.units) od_ne (ce_sl (hk2 hf1 hK) (ce_callK (ok_text_of T) (hc2 hf1 hct) (hk2 hf1 hK) (takes_of rfl rfl rfl rfl) (hr.mono (by decide)) (by rfl) T.f_text_of.g T.f_text_of.F.kp T.kb_text_of_2 (fun _ _ _ => (.cons (.bl _) (.cons (.int _) .nil))) (ca_cons ce_int (ca_cons (ce_var 4) ca_nil)) (cq_cons ce_bl cq_nil)) co_none (co_some ce_int)) ce_str)))) (cs_one (cs_ret (hn2 hf1 hn) ce_bl)) cs_nil))))))))))
    (cs_cons (cs_if (ct_cmp hK (op_neDD hr.units) od_ne (ce_call (ok_read_text T) hct hK (takes_of rfl rfl rfl rfl) (hr.mono (by decide)) (by rfl) T.f_read_text.g T.f_read_text.F.kp T.f_read_text.b (ca_cons (ce_op hK op_mulS od_mulS ce_str ce_int) ca_nil)) (ce_tup (ca_cons (ce_op hK op_sub od_sub (ce_op hK op_powW od_pow (ce_op hK op_powW od_pow ce_int ce_int) ce_int) ce_int) (ca_cons ce_int ca_nil)))) (cs_one (cs_ret hn ce_bl)) cs_nil)
    (cs_cons (cs_if (ct_cmp hK (op_neDD hr.units) od_ne (ce_call (ok_read_text T) hct hK (takes_of rfl rfl rfl rfl) (hr.mono (by decide)) (by rfl) T.f_read_text.g T.f_read_text.F.kp T.f_read_text.b (ca_cons (ce_op hK op_addD od_add (ce_op hK op_addD od_add ce_str (ce_op hK op_mulS od_mulS ce_str ce_int)) ce_str) ca_nil)) (ce_tup (ca_cons (ce_op hK op_addD od_add (ce_op hK op_mulD od_mul (ce_op hK op_powW od_pow (ce_op hK op_powW od_pow ce_int ce_int) ce_int) ce_int) ce_int) (ca_cons ce_int ca_nil)))) (cs_one (cs_ret hn ce_bl)) cs_nil)
    (cs_one (cs_ret hn (ce_and (ce_cmp hK (op_eqDD hr.units) od_eq (ce_call (ok_read_text T) hct hK (takes_of rfl rfl rfl rfl) (hr.mono (by decide)) (by rfl) T.f_read_text.g T.f_read_text.F.kp T.f_read_text.b (ca_cons ce_str ca_nil)) (ce_tup (ca_cons ce_int (ca_cons ce_int ca_nil)))) (ce_one (ce_cmp hK (op_eqDD hr.units) od_eq (ce_call (ok_read_text T) hct hK (takes_of rfl rfl rfl rfl) (hr.mono (by decide)) (by rfl) T.f_read_text.g T.f_read_text.F.kp T.f_read_text.b (ca_cons ce_str ca_nil)) (ce_tup (ca_cons ce_int (ca_cons ce_int ca_nil)))))))))))
end
theorem txt_mk {w : World} {K : PySem.W.Frag} {h : Heap} {mg : Str → Option Value} (X : K.In h) (G : h.Ns mainGlobals mg)
    {oC_Reader : Addr}
    {f0 : Addr} {od0 an0 : Option Addr} {sl0 : Array (Option Value)} {oc0 kV0 dc0 pm0 cd0 ct0 : Value}
    {f1 : Addr} {od1 an1 : Option Addr} {sl1 : Array (Option Value)} {oc1 kV1 dc1 pm1 cd1 ct1 : Value}
    {f2 : Addr} {od2 an2 : Option Addr} {sl2 : Array (Option Value)} {oc2 kV2 dc2 pm2 cd2 ct2 : Value}
    {f3 : Addr} {od3 an3 : Option Addr} {sl3 : Array (Option Value)} {oc3 kV3 dc3 pm3 cd3 ct3 : Value}
    {f4 : Addr} {od4 an4 : Option Addr} {sl4 : Array (Option Value)} {oc4 kV4 dc4 pm4 cd4 ct4 : Value}
    {f5 : Addr} {od5 an5 : Option Addr} {sl5 : Array (Option Value)} {oc5 kV5 dc5 pm5 cd5 ct5 : Value}
    {f6 : Addr} {od6 an6 : Option Addr} {sl6 : Array (Option Value)} {oc6 kV6 dc6 pm6 cd6 ct6 : Value}
    {f7 : Addr} {od7 an7 : Option Addr} {sl7 : Array (Option Value)} {oc7 kV7 dc7 pm7 cd7 ct7 : Value}
    {f8 : Addr} {od8 an8 : Option Addr} {sl8 : Array (Option Value)} {oc8 kV8 dc8 pm8 cd8 ct8 : Value}
    {f9 : Addr} {od9 an9 : Option Addr} {sl9 : Array (Option Value)} {oc9 kV9 dc9 pm9 cd9 ct9 : Value}
    {f10 : Addr} {od10 an10 : Option Addr} {sl10 : Array (Option Value)} {oc10 kV10 dc10 pm10 cd10 ct10 : Value}
    {f11 : Addr} {od11 an11 : Option Addr} {sl11 : Array (Option Value)} {oc11 kV11 dc11 pm11 cd11 ct11 : Value}
    {f12 : Addr} {od12 an12 : Option Addr} {sl12 : Array (Option Value)} {oc12 kV12 dc12 pm12 cd12 ct12 : Value}
    {kD13 : Addr}
    {kt13_width : Tok}
    {f13 : Addr} {od13 an13 : Option Addr} {sl13 : Array (Option Value)} {oc13 dc13 pm13 cd13 ct13 : Value}
    {f14 : Addr} {od14 an14 : Option Addr} {sl14 : Array (Option Value)} {oc14 kV14 dc14 pm14 cd14 ct14 : Value}
    {f15 : Addr} {od15 an15 : Option Addr} {sl15 : Array (Option Value)} {oc15 kV15 dc15 pm15 cd15 ct15 : Value}
    {f16 : Addr} {od16 an16 : Option Addr} {sl16 : Array (Option Value)} {oc16 kV16 dc16 pm16 cd16 ct16 : Value}
    {f17 : Addr} {od17 an17 : Option Addr} {sl17 : Array (Option Value)} {oc17 kV17 dc17 pm17 cd17 ct17 : Value}
    {C_InvalidText : Addr}
    {fI_InvalidText ccA_InvalidText ca_InvalidText N_InvalidText : Addr} {doc_InvalidText pm_InvalidText ctv_InvalidText oc_InvalidText ccl_InvalidText cl_InvalidText : Value} {od_InvalidText cdd_InvalidText cld_InvalidText dd_InvalidText : Option Addr} {osl_InvalidText ccs_InvalidText csl_InvalidText : Array (Option Value)} {vs_InvalidText : Array Value} {file_InvalidText nm_InvalidText q_InvalidText : Str} {tf_InvalidText : Tok} {bs_InvalidText bm_InvalidText sub_InvalidText : List Value} {sn_InvalidText : List Str} {ab_InvalidText : Bool} {col_InvalidText : Option Bool} {k0_InvalidText k1_InvalidText k2_InvalidText k3_InvalidText k5_InvalidText : Option Value}
    {C_InvalidPlaces : Addr}
    {C_InvalidStyle : Addr}
    {C_InvalidValue : Addr}
    {t_DIGITS : Tok}
    {t_MOST_PLACES : Tok}
    {t_MOST_WIDTH : Tok}
    (og_Reader : PySem.W.nsIn K mainGlobals "Reader" = some (some (.ref oC_Reader)))
    (osf_Reader : PySem.W.selfFirst K oC_Reader = true)
    (opg_Reader : PySem.W.plainGet K oC_Reader Str.empty = true)
    (ohd_Reader : PySem.W.hasDictIn K oC_Reader = true)
    (opo_Reader : PySem.W.plainOver K oC_Reader = true)
    (osa_Reader : PySem.W.findIn K (.ref oC_Reader) "__setattr__" = some (some (.builtin "object.__setattr__")))
    (oha_Reader : PySem.W.findIn K (.ref oC_Reader) "__class__" = some (some (.builtin "object.__class__")))
    (ohm_Reader : PySem.W.mroIn K oC_Reader (.type "object") = some true)
    (omk_Reader : PySem.W.makesIn K oC_Reader = true)
    (okp_Reader : PySem.W.keepIn K (.ref oC_Reader) = true)
    (ofn_Reader_at : PySem.W.findIn K (.ref oC_Reader) "at" = some none)
    (ofn_Reader_text : PySem.W.findIn K (.ref oC_Reader) "text" = some none)
    (okT_Reader_NoneType : PySem.W.kitOne K (.type "NoneType") (.ref oC_Reader) = some false)
    (okT_Reader_bool : PySem.W.kitOne K (.type "bool") (.ref oC_Reader) = some false)
    (okT_Reader_int : PySem.W.kitOne K (.type "int") (.ref oC_Reader) = some false)
    (okT_Reader_str : PySem.W.kitOne K (.type "str") (.ref oC_Reader) = some false)
    (okT_Reader_tuple : PySem.W.kitOne K (.type "tuple") (.ref oC_Reader) = some false)
    (okT_Reader_list : PySem.W.kitOne K (.type "list") (.ref oC_Reader) = some false)
    (okT_Reader_dict : PySem.W.kitOne K (.type "dict") (.ref oC_Reader) = some false)
    (okC_Reader_Reader : PySem.W.kitOne K (.ref oC_Reader) (.ref oC_Reader) = some true)
    (oxn : PySem.W.specialIn K (.builtin "object.__class__") "__get__" = some (some (.builtin "getset_descriptor.__get__")))
    (oxt : PySem.W.takesIn K (.builtin "object.__class__") = some true)
    (a0 : PySem.W.findIn K (.ref oC_Reader) "__init__" = some (some (.ref f0)))
    (l0 : K.lookup f0 = some ⟨oc0, od0, .func (PySem.W.fnOf "__init__" "Reader.__init__" (defArgs s_Reader___init__) (defBody s_Reader___init__) (defScope s_Reader___init__) .none kV0 dc0 pm0 an0 cd0 ct0), sl0⟩)
    (c0 : PySem.W.codeIn K cd0 "Reader.__init__" = true)
    (k0 : PySem.W.keepIn K (.ref f0) = true)
    (fi0 : PySem.W.fnIn K f0 = true)
    (fn0 : PySem.W.isFn K (.ref f0) = true)
    (a1 : PySem.W.findIn K (.ref oC_Reader) "sign" = some (some (.ref f1)))
    (l1 : K.lookup f1 = some ⟨oc1, od1, .func (PySem.W.fnOf "sign" "Reader.sign" (defArgs s_Reader_sign) (defBody s_Reader_sign) (defScope s_Reader_sign) .none kV1 dc1 pm1 an1 cd1 ct1), sl1⟩)
    (c1 : PySem.W.codeIn K cd1 "Reader.sign" = true)
    (k1 : PySem.W.keepIn K (.ref f1) = true)
    (fi1 : PySem.W.fnIn K f1 = true)
    (fn1 : PySem.W.isFn K (.ref f1) = true)
    (a2 : PySem.W.findIn K (.ref oC_Reader) "fail" = some (some (.ref f2)))
    (l2 : K.lookup f2 = some ⟨oc2, od2, .func (PySem.W.fnOf "fail" "Reader.fail" (defArgs s_Reader_fail) (defBody s_Reader_fail) (defScope s_Reader_fail) .none kV2 dc2 pm2 an2 cd2 ct2), sl2⟩)
    (c2 : PySem.W.codeIn K cd2 "Reader.fail" = true)
    (k2 : PySem.W.keepIn K (.ref f2) = true)
    (fi2 : PySem.W.fnIn K f2 = true)
    (fn2 : PySem.W.isFn K (.ref f2) = true)
    (a3 : PySem.W.findIn K (.ref oC_Reader) "take" = some (some (.ref f3)))
    (l3 : K.lookup f3 = some ⟨oc3, od3, .func (PySem.W.fnOf "take" "Reader.take" (defArgs s_Reader_take) (defBody s_Reader_take) (defScope s_Reader_take) .none kV3 dc3 pm3 an3 cd3 ct3), sl3⟩)
    (c3 : PySem.W.codeIn K cd3 "Reader.take" = true)
    (k3 : PySem.W.keepIn K (.ref f3) = true)
    (fi3 : PySem.W.fnIn K f3 = true)
    (fn3 : PySem.W.isFn K (.ref f3) = true)
    (a4 : PySem.W.findIn K (.ref oC_Reader) "digits" = some (some (.ref f4)))
    (l4 : K.lookup f4 = some ⟨oc4, od4, .func (PySem.W.fnOf "digits" "Reader.digits" (defArgs s_Reader_digits) (defBody s_Reader_digits) (defScope s_Reader_digits) .none kV4 dc4 pm4 an4 cd4 ct4), sl4⟩)
    (c4 : PySem.W.codeIn K cd4 "Reader.digits" = true)
    (k4 : PySem.W.keepIn K (.ref f4) = true)
    (fi4 : PySem.W.fnIn K f4 = true)
    (fn4 : PySem.W.isFn K (.ref f4) = true)
    (a5 : PySem.W.findIn K (.ref oC_Reader) "front" = some (some (.ref f5)))
    (l5 : K.lookup f5 = some ⟨oc5, od5, .func (PySem.W.fnOf "front" "Reader.front" (defArgs s_Reader_front) (defBody s_Reader_front) (defScope s_Reader_front) .none kV5 dc5 pm5 an5 cd5 ct5), sl5⟩)
    (c5 : PySem.W.codeIn K cd5 "Reader.front" = true)
    (k5 : PySem.W.keepIn K (.ref f5) = true)
    (fi5 : PySem.W.fnIn K f5 = true)
    (fn5 : PySem.W.isFn K (.ref f5) = true)
    (a6 : PySem.W.nsIn K mainGlobals "_law_source" = some (some (.ref f6))) (l6 : K.lookup f6 = some ⟨oc6, od6, .func (PySem.W.fnOf "_law_source" "_law_source" (defArgs s_law_source) (defBody s_law_source) (defScope s_law_source) .none kV6 dc6 pm6 an6 cd6 ct6), sl6⟩) (c6 : PySem.W.codeIn K cd6 "_law_source" = true) (k6 : PySem.W.keepIn K (.ref f6) = true)
    (a7 : PySem.W.nsIn K mainGlobals "_law_draw" = some (some (.ref f7))) (l7 : K.lookup f7 = some ⟨oc7, od7, .func (PySem.W.fnOf "_law_draw" "_law_draw" (defArgs s_law_draw) (defBody s_law_draw) (defScope s_law_draw) .none kV7 dc7 pm7 an7 cd7 ct7), sl7⟩) (c7 : PySem.W.codeIn K cd7 "_law_draw" = true) (k7 : PySem.W.keepIn K (.ref f7) = true)
    (a8 : PySem.W.nsIn K mainGlobals "_law_pick" = some (some (.ref f8))) (l8 : K.lookup f8 = some ⟨oc8, od8, .func (PySem.W.fnOf "_law_pick" "_law_pick" (defArgs s_law_pick) (defBody s_law_pick) (defScope s_law_pick) .none kV8 dc8 pm8 an8 cd8 ct8), sl8⟩) (c8 : PySem.W.codeIn K cd8 "_law_pick" = true) (k8 : PySem.W.keepIn K (.ref f8) = true)
    (a9 : PySem.W.nsIn K mainGlobals "digits_of" = some (some (.ref f9))) (l9 : K.lookup f9 = some ⟨oc9, od9, .func (PySem.W.fnOf "digits_of" "digits_of" (defArgs s_digits_of) (defBody s_digits_of) (defScope s_digits_of) .none kV9 dc9 pm9 an9 cd9 ct9), sl9⟩) (c9 : PySem.W.codeIn K cd9 "digits_of" = true) (k9 : PySem.W.keepIn K (.ref f9) = true)
    (a10 : PySem.W.nsIn K mainGlobals "is_integer" = some (some (.ref f10))) (l10 : K.lookup f10 = some ⟨oc10, od10, .func (PySem.W.fnOf "is_integer" "is_integer" (defArgs s_is_integer) (defBody s_is_integer) (defScope s_is_integer) .none kV10 dc10 pm10 an10 cd10 ct10), sl10⟩) (c10 : PySem.W.codeIn K cd10 "is_integer" = true) (k10 : PySem.W.keepIn K (.ref f10) = true)
    (a11 : PySem.W.nsIn K mainGlobals "is_places" = some (some (.ref f11))) (l11 : K.lookup f11 = some ⟨oc11, od11, .func (PySem.W.fnOf "is_places" "is_places" (defArgs s_is_places) (defBody s_is_places) (defScope s_is_places) .none kV11 dc11 pm11 an11 cd11 ct11), sl11⟩) (c11 : PySem.W.codeIn K cd11 "is_places" = true) (k11 : PySem.W.keepIn K (.ref f11) = true)
    (a12 : PySem.W.nsIn K mainGlobals "grouped" = some (some (.ref f12))) (l12 : K.lookup f12 = some ⟨oc12, od12, .func (PySem.W.fnOf "grouped" "grouped" (defArgs s_grouped) (defBody s_grouped) (defScope s_grouped) .none kV12 dc12 pm12 an12 cd12 ct12), sl12⟩) (c12 : PySem.W.codeIn K cd12 "grouped" = true) (k12 : PySem.W.keepIn K (.ref f12) = true)
    (a13 : PySem.W.nsIn K mainGlobals "text_of" = some (some (.ref f13))) (l13 : K.lookup f13 = some ⟨oc13, od13, .func (PySem.W.fnOf "text_of" "text_of" (defArgs s_text_of) (defBody s_text_of) (defScope s_text_of) .none (.ref kD13) dc13 pm13 an13 cd13 ct13), sl13⟩) (c13 : PySem.W.codeIn K cd13 "text_of" = true) (k13 : PySem.W.keepIn K (.ref f13) = true)
    (kd13_sign : PySem.W.nsIn K kD13 "sign" = some (some (.bool false)))
    (kd13_group : PySem.W.nsIn K kD13 "group" = some (some (.bool false)))
    (kd13_width : PySem.W.nsIn K kD13 "width" = some (some (.int 0 kt13_width)))
    (a14 : PySem.W.nsIn K mainGlobals "_law_styles" = some (some (.ref f14))) (l14 : K.lookup f14 = some ⟨oc14, od14, .func (PySem.W.fnOf "_law_styles" "_law_styles" (defArgs s_law_styles) (defBody s_law_styles) (defScope s_law_styles) .none kV14 dc14 pm14 an14 cd14 ct14), sl14⟩) (c14 : PySem.W.codeIn K cd14 "_law_styles" = true) (k14 : PySem.W.keepIn K (.ref f14) = true)
    (a15 : PySem.W.nsIn K mainGlobals "read_text" = some (some (.ref f15))) (l15 : K.lookup f15 = some ⟨oc15, od15, .func (PySem.W.fnOf "read_text" "read_text" (defArgs s_read_text) (defBody s_read_text) (defScope s_read_text) .none kV15 dc15 pm15 an15 cd15 ct15), sl15⟩) (c15 : PySem.W.codeIn K cd15 "read_text" = true) (k15 : PySem.W.keepIn K (.ref f15) = true)
    (a16 : PySem.W.nsIn K mainGlobals "_law_great" = some (some (.ref f16))) (l16 : K.lookup f16 = some ⟨oc16, od16, .func (PySem.W.fnOf "_law_great" "_law_great" (defArgs s_law_great) (defBody s_law_great) (defScope s_law_great) .none kV16 dc16 pm16 an16 cd16 ct16), sl16⟩) (c16 : PySem.W.codeIn K cd16 "_law_great" = true) (k16 : PySem.W.keepIn K (.ref f16) = true)
    (a17 : PySem.W.nsIn K mainGlobals "law" = some (some (.ref f17))) (l17 : K.lookup f17 = some ⟨oc17, od17, .func (PySem.W.fnOf "law" "law" (defArgs s_law) (defBody s_law) (defScope s_law) .none kV17 dc17 pm17 an17 cd17 ct17), sl17⟩) (c17 : PySem.W.codeIn K cd17 "law" = true) (k17 : PySem.W.keepIn K (.ref f17) = true)
    (g_InvalidText : PySem.W.nsIn K mainGlobals "InvalidText" = some (some (.ref C_InvalidText)))
    (k_InvalidText : PySem.W.keepIn K (.ref C_InvalidText) = true)
    (b_InvalidText : PySem.W.subIn K (.ref C_InvalidText) (.type "BaseException") = some true)
    (t_InvalidText : PySem.W.typeIn K (.ref C_InvalidText) = some (.type "type"))
    (xiC_InvalidText : PySem.W.findIn K (.ref C_InvalidText) "__init__" = some (some (.ref fI_InvalidText)))
    (xtI_InvalidText : PySem.W.typeIn K (.ref fI_InvalidText) = some (.type "function"))
    (xlI_InvalidText : K.lookup fI_InvalidText = some ⟨oc_InvalidText, od_InvalidText, .func (PySem.W.fnX "__init__" "InvalidText.__init__" (defArgs s_InvalidText___init__) (defBody s_InvalidText___init__) (defScope s_InvalidText___init__) [(("__class__" : Str), ccA_InvalidText)] .none .none doc_InvalidText pm_InvalidText none (.ref ca_InvalidText) ctv_InvalidText), osl_InvalidText⟩)
    (xcI_InvalidText : PySem.W.codeIn K (.ref ca_InvalidText) "InvalidText.__init__" = true)
    (xce_InvalidText : K.lookup ccA_InvalidText = some ⟨cl_InvalidText, cld_InvalidText, .cell (some (.ref C_InvalidText)), csl_InvalidText⟩)
    (xco_InvalidText : K.lookup ca_InvalidText = some ⟨ccl_InvalidText, cdd_InvalidText, .fields vs_InvalidText, ccs_InvalidText⟩)
    (xvI_InvalidText : vs_InvalidText[2]? = some (.str file_InvalidText tf_InvalidText))
    (xpI_InvalidText : ((P.main.file : Str) == file_InvalidText) = true)
    (xox_InvalidText : K.lookup C_InvalidText = some (excClassObj nm_InvalidText q_InvalidText C_InvalidText N_InvalidText bs_InvalidText bm_InvalidText true sn_InvalidText sub_InvalidText ab_InvalidText col_InvalidText dd_InvalidText k0_InvalidText k1_InvalidText k2_InvalidText k3_InvalidText k5_InvalidText "ValueError.__new__"))
    (xrv_InvalidText : PySem.HandSPX.refsVE bm_InvalidText = true)
    (xsa_InvalidText : PySem.W.findIn K (.ref C_InvalidText) "__setattr__" = some (some (.builtin "object.__setattr__")))
    (xms_InvalidText : PySem.W.mroIn K C_InvalidText (.ref C_InvalidText) = some true)
    (xsu_InvalidText : PySem.W.ks_superIn K C_InvalidText C_InvalidText "__init__" = some (some (.builtin "ValueError.__init__")))
    (xiv_InvalidText : PySem.W.subIn K (.ref C_InvalidText) (.type "ValueError") = some true)
    (xga_InvalidText : PySem.W.findIn K (.ref C_InvalidText) "__getattribute__" = some (some (.builtin "BaseException.__getattribute__")))
    (xgg_InvalidText : PySem.W.findIn K (.ref C_InvalidText) "__getattr__" = some none)
    (xhd_InvalidText : PySem.W.hasDictIn K C_InvalidText = true)
    (xno_InvalidText_at : PySem.W.findIn K (.ref C_InvalidText) "at" = some none)
    (xst : PySem.W.nsIn K cStatics "thirdparty.any" = some none)
    (xsn : PySem.W.nsIn K mainGlobals "super" = some none)
    (g_InvalidPlaces : PySem.W.nsIn K mainGlobals "InvalidPlaces" = some (some (.ref C_InvalidPlaces))) (x_InvalidPlaces : PySem.W.excIn K C_InvalidPlaces [.type "ValueError", .type "Exception", .type "BaseException", .type "object"] "ValueError.__new__" = true) (k_InvalidPlaces : PySem.W.keepIn K (.ref C_InvalidPlaces) = true) (b_InvalidPlaces : PySem.W.subIn K (.ref C_InvalidPlaces) (.type "BaseException") = some true) (t_InvalidPlaces : PySem.W.typeIn K (.ref C_InvalidPlaces) = some (.type "type"))
    (g_InvalidStyle : PySem.W.nsIn K mainGlobals "InvalidStyle" = some (some (.ref C_InvalidStyle))) (x_InvalidStyle : PySem.W.excIn K C_InvalidStyle [.type "ValueError", .type "Exception", .type "BaseException", .type "object"] "ValueError.__new__" = true) (k_InvalidStyle : PySem.W.keepIn K (.ref C_InvalidStyle) = true) (b_InvalidStyle : PySem.W.subIn K (.ref C_InvalidStyle) (.type "BaseException") = some true) (t_InvalidStyle : PySem.W.typeIn K (.ref C_InvalidStyle) = some (.type "type"))
    (g_InvalidValue : PySem.W.nsIn K mainGlobals "InvalidValue" = some (some (.ref C_InvalidValue))) (x_InvalidValue : PySem.W.excIn K C_InvalidValue [.type "ValueError", .type "Exception", .type "BaseException", .type "object"] "ValueError.__new__" = true) (k_InvalidValue : PySem.W.keepIn K (.ref C_InvalidValue) = true) (b_InvalidValue : PySem.W.subIn K (.ref C_InvalidValue) (.type "BaseException") = some true) (t_InvalidValue : PySem.W.typeIn K (.ref C_InvalidValue) = some (.type "type"))
    (v_DIGITS : PySem.W.nsIn K mainGlobals "DIGITS" = some (some (.str "0123456789" t_DIGITS)))
    (v_MOST_PLACES : PySem.W.nsIn K mainGlobals "MOST_PLACES" = some (some (.int 60 t_MOST_PLACES)))
    (v_MOST_WIDTH : PySem.W.nsIn K mainGlobals "MOST_WIDTH" = some (some (.int 200 t_MOST_WIDTH)))
    (z_abs : PySem.W.nsIn K mainGlobals "abs" = some none)
    (z_bool : PySem.W.nsIn K mainGlobals "bool" = some none)
    (z_int : PySem.W.nsIn K mainGlobals "int" = some none)
    (z_isinstance : PySem.W.nsIn K mainGlobals "isinstance" = some none)
    (z_len : PySem.W.nsIn K mainGlobals "len" = some none)
    (z_range : PySem.W.nsIn K mainGlobals "range" = some none)
    (z_str : PySem.W.nsIn K mainGlobals "str" = some none) :
    ∃ T : Txt w K mg, T.a_law = f17 ∧ T.d_law = PySem.W.fnOf "law" "law" (defArgs s_law) (defBody s_law) (defScope s_law) .none kV17 dc17 pm17 an17 cd17 ct17 := by
  have hoi_Reader : OIs K ["Reader"] "Reader" oC_Reader := ⟨(by
      intro z hz
      rcases List.mem_cons.mp hz with rfl | hz
      · exact okT_Reader_NoneType
      rcases List.mem_cons.mp hz with rfl | hz
      · exact okT_Reader_bool
      rcases List.mem_cons.mp hz with rfl | hz
      · exact okT_Reader_int
      rcases List.mem_cons.mp hz with rfl | hz
      · exact okT_Reader_str
      rcases List.mem_cons.mp hz with rfl | hz
      · exact okT_Reader_tuple
      rcases List.mem_cons.mp hz with rfl | hz
      · exact okT_Reader_list
      rcases List.mem_cons.mp hz with rfl | hz
      · exact okT_Reader_dict
      cases hz), (by
      intro z hz
      rcases List.mem_cons.mp hz with rfl | hz
      · intro C e; rw [og_Reader] at e; cases e; exact okC_Reader_Reader.trans (congrArg some (by decide))
      cases hz)⟩
  have F0 := fun_mk (st := s_Reader___init__) l0 c0 k0
  have b0 := F0.binds (ps := ["self", "text"]) fun _ _ _ _ _ _ us hl => match us, hl with | [_, _], _ => rfl
  have F1 := fun_mk (st := s_Reader_sign) l1 c1 k1
  have b1 := F1.binds (ps := ["self"]) fun _ _ _ _ _ _ us hl => match us, hl with | [_], _ => rfl
  have F2 := fun_mk (st := s_Reader_fail) l2 c2 k2
  have b2 := F2.binds (ps := ["self"]) fun _ _ _ _ _ _ us hl => match us, hl with | [_], _ => rfl
  have F3 := fun_mk (st := s_Reader_take) l3 c3 k3
  have b3 := F3.binds (ps := ["self", "signs"]) fun _ _ _ _ _ _ us hl => match us, hl with | [_, _], _ => rfl
  have F4 := fun_mk (st := s_Reader_digits) l4 c4 k4
  have b4 := F4.binds (ps := ["self", "least", "most"]) fun _ _ _ _ _ _ us hl => match us, hl with | [_, _, _], _ => rfl
  have F5 := fun_mk (st := s_Reader_front) l5 c5 k5
  have b5 := F5.binds (ps := ["self"]) fun _ _ _ _ _ _ us hl => match us, hl with | [_], _ => rfl
  have F6 := fun_mk (st := s_law_source) l6 c6 k6
  have b6 := F6.binds (ps := ["_law_script"]) fun _ _ _ _ _ _ us hl => match us, hl with | [_], _ => rfl
  have F7 := fun_mk (st := s_law_draw) l7 c7 k7
  have b7 := F7.binds (ps := ["_law_source_here", "_law_limit"]) fun _ _ _ _ _ _ us hl => match us, hl with | [_, _], _ => rfl
  have F8 := fun_mk (st := s_law_pick) l8 c8 k8
  have b8 := F8.binds (ps := ["_law_source_here", "_law_values"]) fun _ _ _ _ _ _ us hl => match us, hl with | [_, _], _ => rfl
  have F9 := fun_mk (st := s_digits_of) l9 c9 k9
  have b9 := F9.binds (ps := ["number"]) fun _ _ _ _ _ _ us hl => match us, hl with | [_], _ => rfl
  have F10 := fun_mk (st := s_is_integer) l10 c10 k10
  have b10 := F10.binds (ps := ["value"]) fun _ _ _ _ _ _ us hl => match us, hl with | [_], _ => rfl
  have F11 := fun_mk (st := s_is_places) l11 c11 k11
  have b11 := F11.binds (ps := ["value"]) fun _ _ _ _ _ _ us hl => match us, hl with | [_], _ => rfl
  have F12 := fun_mk (st := s_grouped) l12 c12 k12
  have b12 := F12.binds (ps := ["digits"]) fun _ _ _ _ _ _ us hl => match us, hl with | [_], _ => rfl
  have F13 := fun_mk (st := s_text_of) l13 c13 k13
  have F14 := fun_mk (st := s_law_styles) l14 c14 k14
  have b14 := F14.binds (ps := ["_law_figure", "_law_places"]) fun _ _ _ _ _ _ us hl => match us, hl with | [_, _], _ => rfl
  have F15 := fun_mk (st := s_read_text) l15 c15 k15
  have b15 := F15.binds (ps := ["text"]) fun _ _ _ _ _ _ us hl => match us, hl with | [_], _ => rfl
  have F16 := fun_mk (st := s_law_great) l16 c16 k16
  have b16 := F16.binds (ps := ["_law_source_here", "_law_digits"]) fun _ _ _ _ _ _ us hl => match us, hl with | [_, _], _ => rfl
  have F17 := fun_mk (st := s_law) l17 c17 k17
  have b17 := F17.binds (ps := ["_law_script"]) fun _ _ _ _ _ _ us hl => match us, hl with | [_], _ => rfl
  have ox_InvalidText : OexC K C_InvalidText := ⟨⟨_, _, _, _, _, _, _, _, _, _, _, _, _, _, _, xox_InvalidText, xrv_InvalidText⟩, xsa_InvalidText, b_InvalidText, t_InvalidText, k_InvalidText⟩
  have sp_InvalidText : SupC K mg C_InvalidText ccA_InvalidText := ⟨ox_InvalidText, ⟨_, _, _, xce_InvalidText⟩, xms_InvalidText, xsu_InvalidText, xiv_InvalidText, xst, PySem.W.mg_none_of X G xsn⟩
  have dx_InvalidText := (⟨⟨_, _, _, _, _, _, _, _, _, _, _, _, _, _, rfl, xlI_InvalidText, xcI_InvalidText, sp_InvalidText, xco_InvalidText, xvI_InvalidText, xpI_InvalidText⟩, .all fun us hl => match us, hl with | [_, _], _ => rfl⟩ : DxI P K mg C_InvalidText fI_InvalidText _ ["self", "at"] s_InvalidText___init__ "InvalidText.__init__")
  exact ⟨{ oc_Reader := oC_Reader, og_Reader := PySem.W.mg_of X G og_Reader, oz_Reader := ⟨og_Reader, ⟨opg_Reader, ohd_Reader, opo_Reader, osa_Reader⟩, osf_Reader⟩, ocl_Reader := ⟨opg_Reader, ohd_Reader, opo_Reader, osa_Reader⟩, omr_Reader := ohm_Reader, oi_Reader := hoi_Reader, oe_Reader := oeq_of hoi_Reader og_Reader, omk_Reader := ⟨omk_Reader, a0, fn0, okp_Reader⟩, otab := (by
      intro z hz
      rcases List.mem_cons.mp hz with rfl | hz
      · intro C e; rw [og_Reader] at e; cases e; exact ⟨⟨opg_Reader, ohd_Reader, opo_Reader, osa_Reader⟩, ⟨oha_Reader, oxn, oxt, ohm_Reader⟩⟩
      cases hz), ofl_at := (by
      intro z hz
      rcases List.mem_cons.mp hz with rfl | hz
      · intro C e; rw [og_Reader] at e; cases e; exact ⟨⟨opg_Reader, ohd_Reader, opo_Reader, osa_Reader⟩, ofn_Reader_at⟩
      cases hz), ofl_text := (by
      intro z hz
      rcases List.mem_cons.mp hz with rfl | hz
      · intro C e; rw [og_Reader] at e; cases e; exact ⟨⟨opg_Reader, ohd_Reader, opo_Reader, osa_Reader⟩, ofn_Reader_text⟩
      cases hz), a_Reader___init__ := _, d_Reader___init__ := _, f_Reader___init__ := ⟨F0, b0, fi0, fn0⟩, a_Reader_sign := _, d_Reader_sign := _, f_Reader_sign := ⟨F1, b1, fi1, fn1⟩, om_Reader_sign := ⟨og_Reader, a1, fn1, k1⟩, a_Reader_fail := _, d_Reader_fail := _, f_Reader_fail := ⟨F2, b2, fi2, fn2⟩, om_Reader_fail := ⟨og_Reader, a2, fn2, k2⟩, a_Reader_take := _, d_Reader_take := _, f_Reader_take := ⟨F3, b3, fi3, fn3⟩, om_Reader_take := ⟨og_Reader, a3, fn3, k3⟩, a_Reader_digits := _, d_Reader_digits := _, f_Reader_digits := ⟨F4, b4, fi4, fn4⟩, om_Reader_digits := ⟨og_Reader, a4, fn4, k4⟩, a_Reader_front := _, d_Reader_front := _, f_Reader_front := ⟨F5, b5, fi5, fn5⟩, om_Reader_front := ⟨og_Reader, a5, fn5, k5⟩, a_law_source := _, d_law_source := _, f_law_source := ⟨F6, PySem.W.mg_of X G a6, b6⟩, a_law_draw := _, d_law_draw := _, f_law_draw := ⟨F7, PySem.W.mg_of X G a7, b7⟩, a_law_pick := _, d_law_pick := _, f_law_pick := ⟨F8, PySem.W.mg_of X G a8, b8⟩, a_digits_of := _, d_digits_of := _, f_digits_of := ⟨F9, PySem.W.mg_of X G a9, b9⟩, a_is_integer := _, d_is_integer := _, f_is_integer := ⟨F10, PySem.W.mg_of X G a10, b10⟩, a_is_places := _, d_is_places := _, f_is_places := ⟨F11, PySem.W.mg_of X G a11, b11⟩, a_grouped := _, d_grouped := _, f_grouped := ⟨F12, PySem.W.mg_of X G a12, b12⟩, a_text_of := _, d_text_of := _, f_text_of := ⟨F13, PySem.W.mg_of X G a13⟩, kb_text_of_0 := kbt_all fun us ws h1 h2 => match us, ws, h1, h2 with | [_, _], [_, _, _], _, _ => rfl, kb_text_of_1 := kbt_of (D := kD13) [("sign", .bl false), ("group", .bl false), ("width", .int 0)] (fun q hq => by
      rcases List.mem_cons.mp hq with rfl | hq
      · exact ⟨_, kd13_sign, rfl⟩
      rcases List.mem_cons.mp hq with rfl | hq
      · exact ⟨_, kd13_group, rfl⟩
      rcases List.mem_cons.mp hq with rfl | hq
      · exact ⟨_, kd13_width, ⟨_, rfl⟩⟩
      cases hq) fun us mv ws h1 h2 h3 => match us, mv, ws, h1, h2, h3 with | [_, _], [_, _, _], [], _, _, _ => ⟨_, _, _, _, _, _, rfl, rfl, ⟨_, _, _, _, _, _, rfl, rfl, ⟨_, _, _, _, _, _, rfl, rfl, rfl⟩⟩⟩, kb_text_of_2 := kbt_of (D := kD13) [("group", .bl false), ("width", .int 0)] (fun q hq => by
      rcases List.mem_cons.mp hq with rfl | hq
      · exact ⟨_, kd13_group, rfl⟩
      rcases List.mem_cons.mp hq with rfl | hq
      · exact ⟨_, kd13_width, ⟨_, rfl⟩⟩
      cases hq) fun us mv ws h1 h2 h3 => match us, mv, ws, h1, h2, h3 with | [_, _], [_, _], [_], _, _, _ => ⟨_, _, _, _, _, _, rfl, rfl, ⟨_, _, _, _, _, _, rfl, rfl, rfl⟩⟩, a_law_styles := _, d_law_styles := _, f_law_styles := ⟨F14, PySem.W.mg_of X G a14, b14⟩, a_read_text := _, d_read_text := _, f_read_text := ⟨F15, PySem.W.mg_of X G a15, b15⟩, a_law_great := _, d_law_great := _, f_law_great := ⟨F16, PySem.W.mg_of X G a16, b16⟩, a_law := _, d_law := _, f_law := ⟨F17, PySem.W.mg_of X G a17, b17⟩, ct := fun x => if x = "InvalidPlaces" then some C_InvalidPlaces else if x = "InvalidStyle" then some C_InvalidStyle else if x = "InvalidText" then some C_InvalidText else if x = "InvalidValue" then some C_InvalidValue else none, c_InvalidText := C_InvalidText, a_InvalidText___init__ := fI_InvalidText, d_InvalidText___init__ := _, f_InvalidText___init__ := dx_InvalidText, e_InvalidText := ⟨by first | rfl | (simp; done) | decide, PySem.W.mg_of X G g_InvalidText, ox_InvalidText, xiC_InvalidText, xtI_InvalidText⟩, xno_InvalidText_at := xno_InvalidText_at, c_InvalidPlaces := C_InvalidPlaces, e_InvalidPlaces := ⟨by first | rfl | (simp; done) | decide, PySem.W.mg_of X G g_InvalidPlaces, x_InvalidPlaces, k_InvalidPlaces, b_InvalidPlaces, t_InvalidPlaces⟩, c_InvalidStyle := C_InvalidStyle, e_InvalidStyle := ⟨by first | rfl | (simp; done) | decide, PySem.W.mg_of X G g_InvalidStyle, x_InvalidStyle, k_InvalidStyle, b_InvalidStyle, t_InvalidStyle⟩, c_InvalidValue := C_InvalidValue, e_InvalidValue := ⟨by first | rfl | (simp; done) | decide, PySem.W.mg_of X G g_InvalidValue, x_InvalidValue, k_InvalidValue, b_InvalidValue, t_InvalidValue⟩, y_DIGITS := ⟨t_DIGITS, PySem.W.mg_of X G v_DIGITS⟩, y_MOST_PLACES := ⟨t_MOST_PLACES, PySem.W.mg_of X G v_MOST_PLACES⟩, y_MOST_WIDTH := ⟨t_MOST_WIDTH, PySem.W.mg_of X G v_MOST_WIDTH⟩, n_abs := PySem.W.mg_none_of X G z_abs, n_bool := PySem.W.mg_none_of X G z_bool, n_int := PySem.W.mg_none_of X G z_int, n_isinstance := PySem.W.mg_none_of X G z_isinstance, n_len := PySem.W.mg_none_of X G z_len, n_range := PySem.W.mg_none_of X G z_range, n_str := PySem.W.mg_none_of X G z_str }, rfl, rfl⟩
theorem all_mk {w : World} {K : PySem.W.Frag} {h : Heap} {mg : Str → Option Value} {fa : Addr} (X : K.In h) (G : h.Ns mainGlobals mg) (hfa : mg "law" = some (.ref fa))
    {oC_Reader : Addr}
    {f0 : Addr} {od0 an0 : Option Addr} {sl0 : Array (Option Value)} {oc0 kV0 dc0 pm0 cd0 ct0 : Value}
    {f1 : Addr} {od1 an1 : Option Addr} {sl1 : Array (Option Value)} {oc1 kV1 dc1 pm1 cd1 ct1 : Value}
    {f2 : Addr} {od2 an2 : Option Addr} {sl2 : Array (Option Value)} {oc2 kV2 dc2 pm2 cd2 ct2 : Value}
    {f3 : Addr} {od3 an3 : Option Addr} {sl3 : Array (Option Value)} {oc3 kV3 dc3 pm3 cd3 ct3 : Value}
    {f4 : Addr} {od4 an4 : Option Addr} {sl4 : Array (Option Value)} {oc4 kV4 dc4 pm4 cd4 ct4 : Value}
    {f5 : Addr} {od5 an5 : Option Addr} {sl5 : Array (Option Value)} {oc5 kV5 dc5 pm5 cd5 ct5 : Value}
    {f6 : Addr} {od6 an6 : Option Addr} {sl6 : Array (Option Value)} {oc6 kV6 dc6 pm6 cd6 ct6 : Value}
    {f7 : Addr} {od7 an7 : Option Addr} {sl7 : Array (Option Value)} {oc7 kV7 dc7 pm7 cd7 ct7 : Value}
    {f8 : Addr} {od8 an8 : Option Addr} {sl8 : Array (Option Value)} {oc8 kV8 dc8 pm8 cd8 ct8 : Value}
    {f9 : Addr} {od9 an9 : Option Addr} {sl9 : Array (Option Value)} {oc9 kV9 dc9 pm9 cd9 ct9 : Value}
    {f10 : Addr} {od10 an10 : Option Addr} {sl10 : Array (Option Value)} {oc10 kV10 dc10 pm10 cd10 ct10 : Value}
    {f11 : Addr} {od11 an11 : Option Addr} {sl11 : Array (Option Value)} {oc11 kV11 dc11 pm11 cd11 ct11 : Value}
    {f12 : Addr} {od12 an12 : Option Addr} {sl12 : Array (Option Value)} {oc12 kV12 dc12 pm12 cd12 ct12 : Value}
    {kD13 : Addr}
    {kt13_width : Tok}
    {f13 : Addr} {od13 an13 : Option Addr} {sl13 : Array (Option Value)} {oc13 dc13 pm13 cd13 ct13 : Value}
    {f14 : Addr} {od14 an14 : Option Addr} {sl14 : Array (Option Value)} {oc14 kV14 dc14 pm14 cd14 ct14 : Value}
    {f15 : Addr} {od15 an15 : Option Addr} {sl15 : Array (Option Value)} {oc15 kV15 dc15 pm15 cd15 ct15 : Value}
    {f16 : Addr} {od16 an16 : Option Addr} {sl16 : Array (Option Value)} {oc16 kV16 dc16 pm16 cd16 ct16 : Value}
    {f17 : Addr} {od17 an17 : Option Addr} {sl17 : Array (Option Value)} {oc17 kV17 dc17 pm17 cd17 ct17 : Value}
    {C_InvalidText : Addr}
    {fI_InvalidText ccA_InvalidText ca_InvalidText N_InvalidText : Addr} {doc_InvalidText pm_InvalidText ctv_InvalidText oc_InvalidText ccl_InvalidText cl_InvalidText : Value} {od_InvalidText cdd_InvalidText cld_InvalidText dd_InvalidText : Option Addr} {osl_InvalidText ccs_InvalidText csl_InvalidText : Array (Option Value)} {vs_InvalidText : Array Value} {file_InvalidText nm_InvalidText q_InvalidText : Str} {tf_InvalidText : Tok} {bs_InvalidText bm_InvalidText sub_InvalidText : List Value} {sn_InvalidText : List Str} {ab_InvalidText : Bool} {col_InvalidText : Option Bool} {k0_InvalidText k1_InvalidText k2_InvalidText k3_InvalidText k5_InvalidText : Option Value}
    {C_InvalidPlaces : Addr}
    {C_InvalidStyle : Addr}
    {C_InvalidValue : Addr}
    {t_DIGITS : Tok}
    {t_MOST_PLACES : Tok}
    {t_MOST_WIDTH : Tok}
    (og_Reader : PySem.W.nsIn K mainGlobals "Reader" = some (some (.ref oC_Reader)))
    (osf_Reader : PySem.W.selfFirst K oC_Reader = true)
    (opg_Reader : PySem.W.plainGet K oC_Reader Str.empty = true)
    (ohd_Reader : PySem.W.hasDictIn K oC_Reader = true)
    (opo_Reader : PySem.W.plainOver K oC_Reader = true)
    (osa_Reader : PySem.W.findIn K (.ref oC_Reader) "__setattr__" = some (some (.builtin "object.__setattr__")))
    (oha_Reader : PySem.W.findIn K (.ref oC_Reader) "__class__" = some (some (.builtin "object.__class__")))
    (ohm_Reader : PySem.W.mroIn K oC_Reader (.type "object") = some true)
    (omk_Reader : PySem.W.makesIn K oC_Reader = true)
    (okp_Reader : PySem.W.keepIn K (.ref oC_Reader) = true)
    (ofn_Reader_at : PySem.W.findIn K (.ref oC_Reader) "at" = some none)
    (ofn_Reader_text : PySem.W.findIn K (.ref oC_Reader) "text" = some none)
    (okT_Reader_NoneType : PySem.W.kitOne K (.type "NoneType") (.ref oC_Reader) = some false)
    (okT_Reader_bool : PySem.W.kitOne K (.type "bool") (.ref oC_Reader) = some false)
    (okT_Reader_int : PySem.W.kitOne K (.type "int") (.ref oC_Reader) = some false)
    (okT_Reader_str : PySem.W.kitOne K (.type "str") (.ref oC_Reader) = some false)
    (okT_Reader_tuple : PySem.W.kitOne K (.type "tuple") (.ref oC_Reader) = some false)
    (okT_Reader_list : PySem.W.kitOne K (.type "list") (.ref oC_Reader) = some false)
    (okT_Reader_dict : PySem.W.kitOne K (.type "dict") (.ref oC_Reader) = some false)
    (okC_Reader_Reader : PySem.W.kitOne K (.ref oC_Reader) (.ref oC_Reader) = some true)
    (oxn : PySem.W.specialIn K (.builtin "object.__class__") "__get__" = some (some (.builtin "getset_descriptor.__get__")))
    (oxt : PySem.W.takesIn K (.builtin "object.__class__") = some true)
    (a0 : PySem.W.findIn K (.ref oC_Reader) "__init__" = some (some (.ref f0)))
    (l0 : K.lookup f0 = some ⟨oc0, od0, .func (PySem.W.fnOf "__init__" "Reader.__init__" (defArgs s_Reader___init__) (defBody s_Reader___init__) (defScope s_Reader___init__) .none kV0 dc0 pm0 an0 cd0 ct0), sl0⟩)
    (c0 : PySem.W.codeIn K cd0 "Reader.__init__" = true)
    (k0 : PySem.W.keepIn K (.ref f0) = true)
    (fi0 : PySem.W.fnIn K f0 = true)
    (fn0 : PySem.W.isFn K (.ref f0) = true)
    (a1 : PySem.W.findIn K (.ref oC_Reader) "sign" = some (some (.ref f1)))
    (l1 : K.lookup f1 = some ⟨oc1, od1, .func (PySem.W.fnOf "sign" "Reader.sign" (defArgs s_Reader_sign) (defBody s_Reader_sign) (defScope s_Reader_sign) .none kV1 dc1 pm1 an1 cd1 ct1), sl1⟩)
    (c1 : PySem.W.codeIn K cd1 "Reader.sign" = true)
    (k1 : PySem.W.keepIn K (.ref f1) = true)
    (fi1 : PySem.W.fnIn K f1 = true)
    (fn1 : PySem.W.isFn K (.ref f1) = true)
    (a2 : PySem.W.findIn K (.ref oC_Reader) "fail" = some (some (.ref f2)))
    (l2 : K.lookup f2 = some ⟨oc2, od2, .func (PySem.W.fnOf "fail" "Reader.fail" (defArgs s_Reader_fail) (defBody s_Reader_fail) (defScope s_Reader_fail) .none kV2 dc2 pm2 an2 cd2 ct2), sl2⟩)
    (c2 : PySem.W.codeIn K cd2 "Reader.fail" = true)
    (k2 : PySem.W.keepIn K (.ref f2) = true)
    (fi2 : PySem.W.fnIn K f2 = true)
    (fn2 : PySem.W.isFn K (.ref f2) = true)
    (a3 : PySem.W.findIn K (.ref oC_Reader) "take" = some (some (.ref f3)))
    (l3 : K.lookup f3 = some ⟨oc3, od3, .func (PySem.W.fnOf "take" "Reader.take" (defArgs s_Reader_take) (defBody s_Reader_take) (defScope s_Reader_take) .none kV3 dc3 pm3 an3 cd3 ct3), sl3⟩)
    (c3 : PySem.W.codeIn K cd3 "Reader.take" = true)
    (k3 : PySem.W.keepIn K (.ref f3) = true)
    (fi3 : PySem.W.fnIn K f3 = true)
    (fn3 : PySem.W.isFn K (.ref f3) = true)
    (a4 : PySem.W.findIn K (.ref oC_Reader) "digits" = some (some (.ref f4)))
    (l4 : K.lookup f4 = some ⟨oc4, od4, .func (PySem.W.fnOf "digits" "Reader.digits" (defArgs s_Reader_digits) (defBody s_Reader_digits) (defScope s_Reader_digits) .none kV4 dc4 pm4 an4 cd4 ct4), sl4⟩)
    (c4 : PySem.W.codeIn K cd4 "Reader.digits" = true)
    (k4 : PySem.W.keepIn K (.ref f4) = true)
    (fi4 : PySem.W.fnIn K f4 = true)
    (fn4 : PySem.W.isFn K (.ref f4) = true)
    (a5 : PySem.W.findIn K (.ref oC_Reader) "front" = some (some (.ref f5)))
    (l5 : K.lookup f5 = some ⟨oc5, od5, .func (PySem.W.fnOf "front" "Reader.front" (defArgs s_Reader_front) (defBody s_Reader_front) (defScope s_Reader_front) .none kV5 dc5 pm5 an5 cd5 ct5), sl5⟩)
    (c5 : PySem.W.codeIn K cd5 "Reader.front" = true)
    (k5 : PySem.W.keepIn K (.ref f5) = true)
    (fi5 : PySem.W.fnIn K f5 = true)
    (fn5 : PySem.W.isFn K (.ref f5) = true)
    (a6 : PySem.W.nsIn K mainGlobals "_law_source" = some (some (.ref f6))) (l6 : K.lookup f6 = some ⟨oc6, od6, .func (PySem.W.fnOf "_law_source" "_law_source" (defArgs s_law_source) (defBody s_law_source) (defScope s_law_source) .none kV6 dc6 pm6 an6 cd6 ct6), sl6⟩) (c6 : PySem.W.codeIn K cd6 "_law_source" = true) (k6 : PySem.W.keepIn K (.ref f6) = true)
    (a7 : PySem.W.nsIn K mainGlobals "_law_draw" = some (some (.ref f7))) (l7 : K.lookup f7 = some ⟨oc7, od7, .func (PySem.W.fnOf "_law_draw" "_law_draw" (defArgs s_law_draw) (defBody s_law_draw) (defScope s_law_draw) .none kV7 dc7 pm7 an7 cd7 ct7), sl7⟩) (c7 : PySem.W.codeIn K cd7 "_law_draw" = true) (k7 : PySem.W.keepIn K (.ref f7) = true)
    (a8 : PySem.W.nsIn K mainGlobals "_law_pick" = some (some (.ref f8))) (l8 : K.lookup f8 = some ⟨oc8, od8, .func (PySem.W.fnOf "_law_pick" "_law_pick" (defArgs s_law_pick) (defBody s_law_pick) (defScope s_law_pick) .none kV8 dc8 pm8 an8 cd8 ct8), sl8⟩) (c8 : PySem.W.codeIn K cd8 "_law_pick" = true) (k8 : PySem.W.keepIn K (.ref f8) = true)
    (a9 : PySem.W.nsIn K mainGlobals "digits_of" = some (some (.ref f9))) (l9 : K.lookup f9 = some ⟨oc9, od9, .func (PySem.W.fnOf "digits_of" "digits_of" (defArgs s_digits_of) (defBody s_digits_of) (defScope s_digits_of) .none kV9 dc9 pm9 an9 cd9 ct9), sl9⟩) (c9 : PySem.W.codeIn K cd9 "digits_of" = true) (k9 : PySem.W.keepIn K (.ref f9) = true)
    (a10 : PySem.W.nsIn K mainGlobals "is_integer" = some (some (.ref f10))) (l10 : K.lookup f10 = some ⟨oc10, od10, .func (PySem.W.fnOf "is_integer" "is_integer" (defArgs s_is_integer) (defBody s_is_integer) (defScope s_is_integer) .none kV10 dc10 pm10 an10 cd10 ct10), sl10⟩) (c10 : PySem.W.codeIn K cd10 "is_integer" = true) (k10 : PySem.W.keepIn K (.ref f10) = true)
    (a11 : PySem.W.nsIn K mainGlobals "is_places" = some (some (.ref f11))) (l11 : K.lookup f11 = some ⟨oc11, od11, .func (PySem.W.fnOf "is_places" "is_places" (defArgs s_is_places) (defBody s_is_places) (defScope s_is_places) .none kV11 dc11 pm11 an11 cd11 ct11), sl11⟩) (c11 : PySem.W.codeIn K cd11 "is_places" = true) (k11 : PySem.W.keepIn K (.ref f11) = true)
    (a12 : PySem.W.nsIn K mainGlobals "grouped" = some (some (.ref f12))) (l12 : K.lookup f12 = some ⟨oc12, od12, .func (PySem.W.fnOf "grouped" "grouped" (defArgs s_grouped) (defBody s_grouped) (defScope s_grouped) .none kV12 dc12 pm12 an12 cd12 ct12), sl12⟩) (c12 : PySem.W.codeIn K cd12 "grouped" = true) (k12 : PySem.W.keepIn K (.ref f12) = true)
    (a13 : PySem.W.nsIn K mainGlobals "text_of" = some (some (.ref f13))) (l13 : K.lookup f13 = some ⟨oc13, od13, .func (PySem.W.fnOf "text_of" "text_of" (defArgs s_text_of) (defBody s_text_of) (defScope s_text_of) .none (.ref kD13) dc13 pm13 an13 cd13 ct13), sl13⟩) (c13 : PySem.W.codeIn K cd13 "text_of" = true) (k13 : PySem.W.keepIn K (.ref f13) = true)
    (kd13_sign : PySem.W.nsIn K kD13 "sign" = some (some (.bool false)))
    (kd13_group : PySem.W.nsIn K kD13 "group" = some (some (.bool false)))
    (kd13_width : PySem.W.nsIn K kD13 "width" = some (some (.int 0 kt13_width)))
    (a14 : PySem.W.nsIn K mainGlobals "_law_styles" = some (some (.ref f14))) (l14 : K.lookup f14 = some ⟨oc14, od14, .func (PySem.W.fnOf "_law_styles" "_law_styles" (defArgs s_law_styles) (defBody s_law_styles) (defScope s_law_styles) .none kV14 dc14 pm14 an14 cd14 ct14), sl14⟩) (c14 : PySem.W.codeIn K cd14 "_law_styles" = true) (k14 : PySem.W.keepIn K (.ref f14) = true)
    (a15 : PySem.W.nsIn K mainGlobals "read_text" = some (some (.ref f15))) (l15 : K.lookup f15 = some ⟨oc15, od15, .func (PySem.W.fnOf "read_text" "read_text" (defArgs s_read_text) (defBody s_read_text) (defScope s_read_text) .none kV15 dc15 pm15 an15 cd15 ct15), sl15⟩) (c15 : PySem.W.codeIn K cd15 "read_text" = true) (k15 : PySem.W.keepIn K (.ref f15) = true)
    (a16 : PySem.W.nsIn K mainGlobals "_law_great" = some (some (.ref f16))) (l16 : K.lookup f16 = some ⟨oc16, od16, .func (PySem.W.fnOf "_law_great" "_law_great" (defArgs s_law_great) (defBody s_law_great) (defScope s_law_great) .none kV16 dc16 pm16 an16 cd16 ct16), sl16⟩) (c16 : PySem.W.codeIn K cd16 "_law_great" = true) (k16 : PySem.W.keepIn K (.ref f16) = true)
    (a17 : PySem.W.nsIn K mainGlobals "law" = some (some (.ref f17))) (l17 : K.lookup f17 = some ⟨oc17, od17, .func (PySem.W.fnOf "law" "law" (defArgs s_law) (defBody s_law) (defScope s_law) .none kV17 dc17 pm17 an17 cd17 ct17), sl17⟩) (c17 : PySem.W.codeIn K cd17 "law" = true) (k17 : PySem.W.keepIn K (.ref f17) = true)
    (g_InvalidText : PySem.W.nsIn K mainGlobals "InvalidText" = some (some (.ref C_InvalidText)))
    (k_InvalidText : PySem.W.keepIn K (.ref C_InvalidText) = true)
    (b_InvalidText : PySem.W.subIn K (.ref C_InvalidText) (.type "BaseException") = some true)
    (t_InvalidText : PySem.W.typeIn K (.ref C_InvalidText) = some (.type "type"))
    (xiC_InvalidText : PySem.W.findIn K (.ref C_InvalidText) "__init__" = some (some (.ref fI_InvalidText)))
    (xtI_InvalidText : PySem.W.typeIn K (.ref fI_InvalidText) = some (.type "function"))
    (xlI_InvalidText : K.lookup fI_InvalidText = some ⟨oc_InvalidText, od_InvalidText, .func (PySem.W.fnX "__init__" "InvalidText.__init__" (defArgs s_InvalidText___init__) (defBody s_InvalidText___init__) (defScope s_InvalidText___init__) [(("__class__" : Str), ccA_InvalidText)] .none .none doc_InvalidText pm_InvalidText none (.ref ca_InvalidText) ctv_InvalidText), osl_InvalidText⟩)
    (xcI_InvalidText : PySem.W.codeIn K (.ref ca_InvalidText) "InvalidText.__init__" = true)
    (xce_InvalidText : K.lookup ccA_InvalidText = some ⟨cl_InvalidText, cld_InvalidText, .cell (some (.ref C_InvalidText)), csl_InvalidText⟩)
    (xco_InvalidText : K.lookup ca_InvalidText = some ⟨ccl_InvalidText, cdd_InvalidText, .fields vs_InvalidText, ccs_InvalidText⟩)
    (xvI_InvalidText : vs_InvalidText[2]? = some (.str file_InvalidText tf_InvalidText))
    (xpI_InvalidText : ((P.main.file : Str) == file_InvalidText) = true)
    (xox_InvalidText : K.lookup C_InvalidText = some (excClassObj nm_InvalidText q_InvalidText C_InvalidText N_InvalidText bs_InvalidText bm_InvalidText true sn_InvalidText sub_InvalidText ab_InvalidText col_InvalidText dd_InvalidText k0_InvalidText k1_InvalidText k2_InvalidText k3_InvalidText k5_InvalidText "ValueError.__new__"))
    (xrv_InvalidText : PySem.HandSPX.refsVE bm_InvalidText = true)
    (xsa_InvalidText : PySem.W.findIn K (.ref C_InvalidText) "__setattr__" = some (some (.builtin "object.__setattr__")))
    (xms_InvalidText : PySem.W.mroIn K C_InvalidText (.ref C_InvalidText) = some true)
    (xsu_InvalidText : PySem.W.ks_superIn K C_InvalidText C_InvalidText "__init__" = some (some (.builtin "ValueError.__init__")))
    (xiv_InvalidText : PySem.W.subIn K (.ref C_InvalidText) (.type "ValueError") = some true)
    (xga_InvalidText : PySem.W.findIn K (.ref C_InvalidText) "__getattribute__" = some (some (.builtin "BaseException.__getattribute__")))
    (xgg_InvalidText : PySem.W.findIn K (.ref C_InvalidText) "__getattr__" = some none)
    (xhd_InvalidText : PySem.W.hasDictIn K C_InvalidText = true)
    (xno_InvalidText_at : PySem.W.findIn K (.ref C_InvalidText) "at" = some none)
    (xst : PySem.W.nsIn K cStatics "thirdparty.any" = some none)
    (xsn : PySem.W.nsIn K mainGlobals "super" = some none)
    (g_InvalidPlaces : PySem.W.nsIn K mainGlobals "InvalidPlaces" = some (some (.ref C_InvalidPlaces))) (x_InvalidPlaces : PySem.W.excIn K C_InvalidPlaces [.type "ValueError", .type "Exception", .type "BaseException", .type "object"] "ValueError.__new__" = true) (k_InvalidPlaces : PySem.W.keepIn K (.ref C_InvalidPlaces) = true) (b_InvalidPlaces : PySem.W.subIn K (.ref C_InvalidPlaces) (.type "BaseException") = some true) (t_InvalidPlaces : PySem.W.typeIn K (.ref C_InvalidPlaces) = some (.type "type"))
    (g_InvalidStyle : PySem.W.nsIn K mainGlobals "InvalidStyle" = some (some (.ref C_InvalidStyle))) (x_InvalidStyle : PySem.W.excIn K C_InvalidStyle [.type "ValueError", .type "Exception", .type "BaseException", .type "object"] "ValueError.__new__" = true) (k_InvalidStyle : PySem.W.keepIn K (.ref C_InvalidStyle) = true) (b_InvalidStyle : PySem.W.subIn K (.ref C_InvalidStyle) (.type "BaseException") = some true) (t_InvalidStyle : PySem.W.typeIn K (.ref C_InvalidStyle) = some (.type "type"))
    (g_InvalidValue : PySem.W.nsIn K mainGlobals "InvalidValue" = some (some (.ref C_InvalidValue))) (x_InvalidValue : PySem.W.excIn K C_InvalidValue [.type "ValueError", .type "Exception", .type "BaseException", .type "object"] "ValueError.__new__" = true) (k_InvalidValue : PySem.W.keepIn K (.ref C_InvalidValue) = true) (b_InvalidValue : PySem.W.subIn K (.ref C_InvalidValue) (.type "BaseException") = some true) (t_InvalidValue : PySem.W.typeIn K (.ref C_InvalidValue) = some (.type "type"))
    (v_DIGITS : PySem.W.nsIn K mainGlobals "DIGITS" = some (some (.str "0123456789" t_DIGITS)))
    (v_MOST_PLACES : PySem.W.nsIn K mainGlobals "MOST_PLACES" = some (some (.int 60 t_MOST_PLACES)))
    (v_MOST_WIDTH : PySem.W.nsIn K mainGlobals "MOST_WIDTH" = some (some (.int 200 t_MOST_WIDTH)))
    (z_abs : PySem.W.nsIn K mainGlobals "abs" = some none)
    (z_bool : PySem.W.nsIn K mainGlobals "bool" = some none)
    (z_int : PySem.W.nsIn K mainGlobals "int" = some none)
    (z_isinstance : PySem.W.nsIn K mainGlobals "isinstance" = some none)
    (z_len : PySem.W.nsIn K mainGlobals "len" = some none)
    (z_range : PySem.W.nsIn K mainGlobals "range" = some none)
    (z_str : PySem.W.nsIn K mainGlobals "str" = some none) :
    ∃ fd : FuncData, (∀ (s : Shared) (v : Value), BindsTo s fd ⟨[v], []⟩ [("_law_script", v)]) ∧ ∀ base : Heap, K.In base → base.Ns mainGlobals mg → FnOk P w K mg base (L2.CX P w) 7 fa fd ["_law_script"] (spLaw K 6 m_law) := by
  obtain ⟨T, e1, e2⟩ := txt_mk (w := w) X G og_Reader osf_Reader opg_Reader ohd_Reader opo_Reader osa_Reader oha_Reader ohm_Reader omk_Reader okp_Reader ofn_Reader_at ofn_Reader_text okT_Reader_NoneType okT_Reader_bool okT_Reader_int okT_Reader_str okT_Reader_tuple okT_Reader_list okT_Reader_dict okC_Reader_Reader oxn oxt a0 l0 c0 k0 fi0 fn0 a1 l1 c1 k1 fi1 fn1 a2 l2 c2 k2 fi2 fn2 a3 l3 c3 k3 fi3 fn3 a4 l4 c4 k4 fi4 fn4 a5 l5 c5 k5 fi5 fn5 a6 l6 c6 k6 a7 l7 c7 k7 a8 l8 c8 k8 a9 l9 c9 k9 a10 l10 c10 k10 a11 l11 c11 k11 a12 l12 c12 k12 a13 l13 c13 k13 kd13_sign kd13_group kd13_width a14 l14 c14 k14 a15 l15 c15 k15 a16 l16 c16 k16 a17 l17 c17 k17 g_InvalidText k_InvalidText b_InvalidText t_InvalidText xiC_InvalidText xtI_InvalidText xlI_InvalidText xcI_InvalidText xce_InvalidText xco_InvalidText xvI_InvalidText xpI_InvalidText xox_InvalidText xrv_InvalidText xsa_InvalidText xms_InvalidText xsu_InvalidText xiv_InvalidText xga_InvalidText xgg_InvalidText xhd_InvalidText xno_InvalidText_at xst xsn g_InvalidPlaces x_InvalidPlaces k_InvalidPlaces b_InvalidPlaces t_InvalidPlaces g_InvalidStyle x_InvalidStyle k_InvalidStyle b_InvalidStyle t_InvalidStyle g_InvalidValue x_InvalidValue k_InvalidValue b_InvalidValue t_InvalidValue v_DIGITS v_MOST_PLACES v_MOST_WIDTH z_abs z_bool z_int z_isinstance z_len z_range z_str
  have e := hfa.symm.trans (PySem.W.mg_of X G a17)
  cases e
  refine ⟨PySem.W.fnOf "law" "law" (defArgs s_law) (defBody s_law) (defScope s_law) .none kV17 dc17 pm17 an17 cd17 ct17, fun s v => .of_eq rfl, fun base _ _ => ?_⟩
  have q := ok_law (w := w) (base := base) T
  rw [e1, e2] at q
  exact q
end Hm
set_option Elab.async false
set_option linter.all false
set_option maxRecDepth 100000
set_option maxHeartbeats 4000000
namespace Hm
open PySem L2
/-! ### sides: the mathematics -/
def thr (o s : Int) (m : Str) (k : Int) : Int := if m = "down" then o + s * k else if m = "up" then o + s * k - s + 1 else if m = "half_up" ∨ (m = "half_even" ∧ k % 2 = 0) then o + s * k - s / 2 else o + s * k - (s - 1) / 2
def figf (o s : Int) (m : Str) (v : Int) : Int := if thr o s m ((v - o) / s + 1) ≤ v then (v - o) / s + 1 else (v - o) / s
def hand (o s : Int) (m : Str) (v : Int) : Int := o + s * figf o s m v
@[simp] abbrev sideD (o s : Int) (m : Str) : D := .tup [.int o, .int s, .str m]
def IsMd (m : Str) : Prop := m = "down" ∨ m = "up" ∨ m = "half_down" ∨ m = "half_up" ∨ m = "half_even"
structure SOk (o s : Int) (m : Str) : Prop where
  o1 : -(10 ^ 40) ≤ o
  o2 : o ≤ 10 ^ 40
  s1 : 1 ≤ s
  s2 : s ≤ 10 ^ 30
  md : IsMd m
theorem div_bd {x s b : Int} (hs : 1 ≤ s) (h1 : -b ≤ x) (h2 : x ≤ b) : -b ≤ x / s ∧ x / s ≤ b := by
  have e := Int.mul_ediv_add_emod x s
  have r0 := Int.emod_nonneg x (show s ≠ 0 by omega)
  have r1 := Int.emod_lt_of_pos x (show 0 < s by omega)
  generalize x / s = q at *
  generalize x % s = r at *
  constructor
  · by_cases c : -b ≤ q
    · exact c
    · have : s * (q + 1) ≤ 1 * (q + 1) ∨ 0 < q + 1 := by
        by_cases c2 : 0 < q + 1
        · exact .inr c2
        · exact .inl (Int.mul_le_mul_of_nonpos_right hs (by omega))
      rw [Int.mul_add] at this
      omega
  · by_cases c : q ≤ b
    · exact c
    · have : 1 * q ≤ s * q := Int.mul_le_mul_of_nonneg_right hs (by omega)
      omega
/-- whether what lies r above the q-th standing value is written up -/
def Up (s : Int) (m : Str) (q r : Int) : Bool := if m = "down" then false else if m = "up" then decide (1 ≤ r) else if m = "half_up" ∨ (m = "half_even" ∧ (q + 1) % 2 = 0) then decide (s ≤ 2 * r) else decide (s < 2 * r)
theorem fig_at {o s q r v : Int} {m : Str} (hs : 1 ≤ s) (hv : v = o + s * q + r) (h0 : 0 ≤ r) (h1 : r < s) : figf o s m v = if Up s m q r = true then q + 1 else q := by
  have e1 : (v - o) / s = q := by
    have : v - o = r + s * q := by omega
    rw [this, Int.add_mul_ediv_left _ _ (by omega), Int.ediv_eq_zero_of_lt h0 h1]
    omega
  unfold figf thr Up
  rw [e1]
  have e2 : s * (q + 1) = s * q + s := by rw [Int.mul_add, Int.mul_one]
  rw [e2]
  generalize s * q = p at *
  by_cases a1 : m = "down"
  · simp only [a1, if_true]
    rw [if_neg (by omega), if_neg Bool.false_ne_true]
  · simp only [a1, if_false]
    by_cases a2 : m = "up"
    · simp only [a2, if_true, decide_eq_true_eq]
      by_cases c : 1 ≤ r
      · rw [if_pos c, if_pos (by omega)]
      · rw [if_neg c, if_neg (by omega)]
    · simp only [a2, if_false]
      by_cases a3 : m = "half_up" ∨ (m = "half_even" ∧ (q + 1) % 2 = 0)
      · simp only [if_pos a3, decide_eq_true_eq]
        by_cases c : s ≤ 2 * r
        · rw [if_pos c, if_pos (by omega)]
        · rw [if_neg c, if_neg (by omega)]
      · simp only [if_neg a3, decide_eq_true_eq]
        by_cases c : s < 2 * r
        · rw [if_pos c, if_pos (by omega)]
        · rw [if_neg c, if_neg (by omega)]
theorem up_zero {s q : Int} {m : Str} (hs : 1 ≤ s) : Up s m q 0 = false := by
  unfold Up
  split
  · rfl
  · split
    · exact decide_eq_false (by omega)
    · split <;> exact decide_eq_false (by omega)
theorem up_mono {s q r r' : Int} {m : Str} (h : r ≤ r') (u : Up s m q r = true) : Up s m q r' = true := by
  unfold Up at u ⊢
  split
  · rename_i e; rw [if_pos e] at u; exact u
  · rename_i e; rw [if_neg e] at u
    split
    · rename_i e2; rw [if_pos e2] at u; exact decide_eq_true (by have := of_decide_eq_true u; omega)
    · rename_i e2; rw [if_neg e2] at u
      split
      · rename_i e3; rw [if_pos e3] at u; exact decide_eq_true (by have := of_decide_eq_true u; omega)
      · rename_i e3; rw [if_neg e3] at u; exact decide_eq_true (by have := of_decide_eq_true u; omega)
theorem up_two {s q r : Int} {m : Str} : Up s m (q + 2) r = Up s m q r := by
  have e : ((q + 2 + 1) % 2 = 0) = ((q + 1) % 2 = 0) := by apply propext; omega
  unfold Up
  simp only [e]
theorem up_half {s q r : Int} {m : Str} (hm : m = "half_down" ∨ m = "half_up" ∨ m = "half_even") : (Up s m q r = true → s ≤ 2 * r) ∧ (Up s m q r = false → 2 * r ≤ s) := by
  unfold Up
  rcases hm with rfl | rfl | rfl <;> simp
  · omega
  · omega
  · split <;> simp <;> omega
theorem place (o : Int) {s : Int} (hs : 1 ≤ s) (v : Int) : ∃ q r, v = o + s * q + r ∧ 0 ≤ r ∧ r < s ∧ (v - o) / s = q ∧ (v - o) % s = r :=
  ⟨(v - o) / s, (v - o) % s, by have := Int.mul_ediv_add_emod (v - o) s; omega, Int.emod_nonneg _ (by omega), Int.emod_lt_of_pos _ (by omega), rfl, rfl⟩

section
variable {o s k v i : Int} {m x : Str} {b : Bool} {xs : List D} {Q : DK} {W : XKD}
def lfig (o s : Int) (m : Str) (v : Int) : Int :=
  if m = "down" ∨ v - o - s * ((v - o) / s) = 0 then (v - o) / s else if m = "up" ∨ s < 2 * (v - o - s * ((v - o) / s)) then (v - o) / s + 1 else if 2 * (v - o - s * ((v - o) / s)) < s ∨ m = "half_down" then (v - o) / s else
    (v - o) / s + if m = "half_up" ∨ (v - o) / s % 2 = 1 then 1 else 0
theorem lfig_eq (hs : 1 ≤ s) (hm : IsMd m) : lfig o s m v = figf o s m v := by
  obtain ⟨q, r, hv, r0, r1, e1, e2⟩ := place o hs v
  rw [fig_at hs hv r0 r1]
  unfold lfig Up
  rw [e1]
  have e3 : v - o - s * q = r := by omega
  rw [e3]
  rcases hm with rfl | rfl | rfl | rfl | rfl
  · simp
  · simp
    by_cases c : r = 0
    · simp [c]
    · simp [c]; omega
  · simp
    omega
  · simp
    repeat (split <;> try omega)
  · simp
    repeat (split <;> try omega)
/-- what is written, by its place -/
theorem hand_at {q r : Int} (hs : 1 ≤ s) (hv : v = o + s * q + r) (h0 : 0 ≤ r) (h1 : r < s) : hand o s m v = o + s * q + if Up s m q r = true then s else 0 := by
  unfold hand
  rw [fig_at hs hv h0 h1]
  have e2 : s * (q + 1) = s * q + s := by rw [Int.mul_add, Int.mul_one]
  split
  · rw [e2]; omega
  · omega
theorem hand_bd (S : SOk o s m) : v - s < hand o s m v ∧ hand o s m v < v + s := by
  obtain ⟨q, r, hv, r0, r1, _⟩ := place o S.s1 v
  rw [hand_at (m := m) S.s1 hv r0 r1]
  have := S.s1
  by_cases c : r = 0
  · rw [c, up_zero S.s1, if_neg Bool.false_ne_true]; omega
  · split <;> omega
theorem hand_half (S : SOk o s m) (hm : m = "half_down" ∨ m = "half_up" ∨ m = "half_even") : 2 * (if hand o s m v - v < 0 then -(hand o s m v - v) else hand o s m v - v) ≤ s := by
  obtain ⟨q, r, hv, r0, r1, _⟩ := place o S.s1 v
  rw [hand_at (m := m) S.s1 hv r0 r1]
  obtain ⟨h1, h2⟩ := up_half (s := s) (q := q) (r := r) hm
  cases u : Up s m q r with
  | true =>
    have := h1 u
    rw [if_pos rfl]
    split <;> omega
  | false =>
    have := h2 u
    rw [if_neg Bool.false_ne_true]
    split <;> omega
theorem hand_stands (S : SOk o s m) : decide ((v - o) % s = 0) = decide (hand o s m v = v) := by
  obtain ⟨q, r, hv, r0, r1, e1, e2⟩ := place o S.s1 v
  rw [e2, hand_at (m := m) S.s1 hv r0 r1]
  by_cases c : r = 0
  · rw [c, up_zero S.s1, if_neg Bool.false_ne_true, decide_eq_true rfl, decide_eq_true (by omega)]
  · rw [decide_eq_false c, decide_eq_false (by split <;> omega)]
theorem hand_std (q : Int) : (o + s * q - o) % s = 0 := by
  rw [show o + s * q - o = s * q by omega]
  exact Int.mul_emod_right s q
theorem hand_fix (S : SOk o s m) (q : Int) : hand o s m (o + s * q) = o + s * q := by
  have := S.s1
  rw [hand_at (m := m) (q := q) (r := 0) S.s1 (by omega) (by omega) (by omega), up_zero S.s1, if_neg Bool.false_ne_true]
  omega
theorem hand_mono (S : SOk o s m) : hand o s m v ≤ hand o s m (v + 1) := by
  obtain ⟨q, r, hv, r0, r1, _⟩ := place o S.s1 v
  have := S.s1
  by_cases c : r + 1 < s
  · rw [hand_at (m := m) S.s1 hv r0 r1, hand_at (m := m) (q := q) (r := r + 1) S.s1 (by omega) (by omega) c]
    cases u : Up s m q r with
    | true => rw [up_mono (r' := r + 1) (by omega) u]; exact Int.le_refl _
    | false => rw [if_neg Bool.false_ne_true]; split <;> omega
  · have e : v + 1 = o + s * (q + 1) := by rw [Int.mul_add, Int.mul_one]; omega
    rw [e, hand_fix S, hand_at (m := m) S.s1 hv r0 r1, Int.mul_add, Int.mul_one]
    split <;> omega
theorem hand_two (S : SOk o s m) : hand o s m (v + s * 2) = hand o s m v + s * 2 := by
  obtain ⟨q, r, hv, r0, r1, _⟩ := place o S.s1 v
  have e3 : s * (q + 2) = s * q + s * 2 := Int.mul_add s q 2
  rw [hand_at (m := m) S.s1 hv r0 r1, hand_at (m := m) (q := q + 2) (r := r) S.s1 (by omega) r0 r1, up_two]
  omega

/-- the Galois pair: a value is handed the figure k or more exactly from the threshold of k on -/
theorem thr_le (hs : 1 ≤ s) : thr o s m k ≤ o + s * k ∧ o + s * k - s < thr o s m k := by
  unfold thr
  generalize s * k = p
  split
  · omega
  · split
    · omega
    · split <;> omega
theorem thr_lt (hs : 1 ≤ s) : thr o s m k < thr o s m (k + 1) := by
  unfold thr
  have e : s * (k + 1) = s * k + s := by rw [Int.mul_add, Int.mul_one]
  rw [e]
  generalize s * k = p
  split
  · omega
  · split
    · omega
    · split
      · split <;> omega
      · split <;> omega
theorem mul_mono {a b : Int} (hs : 1 ≤ s) (h : a ≤ b) : s * a ≤ s * b := Int.mul_le_mul_of_nonneg_left h (by omega)
theorem fig_iff (hs : 1 ≤ s) : thr o s m k ≤ v ↔ k ≤ figf o s m v := by
  obtain ⟨q, r, hv, r0, r1, e1, e2⟩ := place o hs v
  have e3 : s * (q + 1) = s * q + s := by rw [Int.mul_add, Int.mul_one]
  have hk := thr_le (o := o) (m := m) (k := k) hs
  have hq := thr_le (o := o) (m := m) (k := q + 1) hs
  unfold figf
  rw [e1]
  by_cases c : k ≤ q
  · have := mul_mono hs c
    constructor
    · intro _; split <;> omega
    · intro _; omega
  · by_cases c2 : k = q + 1
    · rw [c2]
      constructor
      · intro h; rw [if_pos h]; omega
      · intro h
        by_cases c3 : thr o s m (q + 1) ≤ v
        · exact c3
        · rw [if_neg c3] at h; omega
    · have := mul_mono hs (show q + 1 + 1 ≤ k by omega)
      have e4 : s * (q + 1 + 1) = s * q + s + s := by rw [Int.mul_add, Int.mul_one, e3]
      constructor
      · intro h; omega
      · intro h; split at h <;> omega
theorem fig_is (hs : 1 ≤ s) (h1 : thr o s m k ≤ v) (h2 : v < thr o s m (k + 1)) : figf o s m v = k := by
  have a := (fig_iff hs).mp h1
  have b : ¬ k + 1 ≤ figf o s m v := fun h => by have := (fig_iff hs).mpr h; omega
  omega
end
end Hm
set_option Elab.async false
set_option linter.all false
set_option maxRecDepth 100000
set_option maxHeartbeats 4000000
namespace Hm
open PySem L2
/-! ### two sides: the mathematics of their exchange -/
structure Sde where
  o : Int
  s : Int
  m : Str
def Sde.t (A : Sde) (k : Int) : Int := thr A.o A.s A.m k
def Sde.f (A : Sde) (v : Int) : Int := figf A.o A.s A.m v
def Sde.h (A : Sde) (v : Int) : Int := hand A.o A.s A.m v
def bkf (o s : Int) (m : Str) (v : Int) : Int := thr o s m (-((o - v) / s))
def Sde.b (A : Sde) (v : Int) : Int := bkf A.o A.s A.m v
def Sde.g (A : Sde) (k : Int) : Int := A.o + A.s * k
section
variable {A F C : Sde} {k v x y : Int}
theorem Sde.h_is (A : Sde) (v : Int) : A.h v = A.g (A.f v) := rfl
theorem Sde.fi (hs : 1 ≤ A.s) : A.t k ≤ v ↔ k ≤ A.f v := fig_iff hs
theorem Sde.tlt (hs : 1 ≤ A.s) : A.t k < A.t (k + 1) := thr_lt hs
theorem Sde.tmono (hs : 1 ≤ A.s) {k j : Int} (h : k ≤ j) : A.t k ≤ A.t j := by
  obtain ⟨n, rfl⟩ : ∃ n : Nat, j = k + n := ⟨(j - k).toNat, by omega⟩
  clear h
  induction n with
  | zero => simp
  | succ n ih =>
    have := A.tlt hs (k := k + n)
    have e : k + ((n + 1 : Nat) : Int) = k + n + 1 := by omega
    rw [e]; omega
theorem Sde.cell (hs : 1 ≤ A.s) (h1 : A.t k ≤ v) (h2 : v < A.t (k + 1)) : A.f v = k := fig_is hs h1 h2
theorem Sde.inCell (hs : 1 ≤ A.s) (v : Int) : A.t (A.f v) ≤ v ∧ v < A.t (A.f v + 1) := by
  constructor
  · exact (A.fi hs).mpr (Int.le_refl _)
  · by_cases c : v < A.t (A.f v + 1)
    · exact c
    · have := (A.fi hs (k := A.f v + 1) (v := v)).mp (by omega)
      omega
/-- hands over x or more exactly from back x on -/
theorem Sde.hge (hs : 1 ≤ A.s) : x ≤ A.h v ↔ A.b x ≤ v := by
  have e := Int.mul_ediv_add_emod (A.o - x) A.s
  have r0 := Int.emod_nonneg (A.o - x) (show A.s ≠ 0 by omega)
  have r1 := Int.emod_lt_of_pos (A.o - x) (show 0 < A.s by omega)
  have key : A.b x ≤ v ↔ -((A.o - x) / A.s) ≤ A.f v := A.fi hs
  rw [key, A.h_is]
  unfold Sde.g
  generalize (A.o - x) / A.s = q at *
  generalize (A.o - x) % A.s = r at *
  constructor
  · intro h
    by_cases c : -q ≤ A.f v
    · exact c
    · have := mul_mono hs (show A.f v ≤ -q - 1 by omega)
      rw [Int.mul_sub, Int.mul_neg, Int.mul_one] at this
      omega
  · intro h
    have := mul_mono hs h
    rw [Int.mul_neg] at this
    omega
theorem Sde.hbd (hs : 1 ≤ A.s) : v - A.s < A.h v ∧ A.h v < v + A.s := by
  obtain ⟨q, r, hv, r0, r1, _⟩ := place A.o hs v
  unfold Sde.h
  rw [hand_at (m := A.m) hs hv r0 r1]
  split
  · rename_i u
    have : r ≠ 0 := by
      intro z
      rw [z, up_zero hs] at u
      cases u
    omega
  · omega
/-- standing values -/
theorem Sde.hfix (hs : 1 ≤ A.s) (q : Int) : A.h (A.g q) = A.g q := by
  unfold Sde.h Sde.g
  rw [hand_at (m := A.m) hs (show A.o + A.s * q = A.o + A.s * q + 0 by omega) (Int.le_refl _) (by omega), up_zero hs]
  simp
theorem Sde.stands (hs : 1 ≤ A.s) : A.h x = x ↔ (x - A.o) % A.s = 0 := by
  constructor
  · intro h
    have e : x = A.o + A.s * A.f x := h.symm
    have e2 : x - A.o = A.s * A.f x := by omega
    rw [e2]; exact Int.mul_emod_right _ _
  · intro h
    obtain ⟨q, hq⟩ := Int.dvd_of_emod_eq_zero h
    have e : x = A.g q := by unfold Sde.g; omega
    rw [e]; exact A.hfix hs q
def dif (F C : Sde) (v : Int) : Prop := C.h (F.h v) ≠ F.h (C.h v)
/-- within the cell of the coarse side -/
theorem dif_cell (hF : 1 ≤ F.s) (hC : 1 ≤ C.s) (hFC : F.s ≤ C.s) (h1 : C.t k ≤ v) (h2 : v < C.t (k + 1)) : dif F C v ↔ ((C.g k - F.o) % F.s ≠ 0 ∨ v < F.b (C.t k) ∨ F.b (C.t (k + 1)) ≤ v) := by
  have e1 : C.h v = C.g k := by rw [C.h_is, C.cell hC h1 h2]
  unfold dif
  rw [e1]
  by_cases st : (C.g k - F.o) % F.s = 0
  · have e2 : F.h (C.g k) = C.g k := (F.stands hF).mpr st
    rw [e2]
    constructor
    · intro h
      refine .inr ?_
      by_cases c1 : v < F.b (C.t k)
      · exact .inl c1
      · refine .inr ?_
        by_cases c2 : F.b (C.t (k + 1)) ≤ v
        · exact c2
        · exfalso
          have a1 := (F.hge hF (x := C.t k) (v := v)).mpr (by omega)
          have a2 : ¬ C.t (k + 1) ≤ F.h v := fun z => c2 ((F.hge hF).mp z)
          exact h (by rw [C.h_is, C.cell hC a1 (by omega)])
    · rintro (h | h | h)
      · exact absurd st h
      · intro z
        have a1 : ¬ C.t k ≤ F.h v := fun z => by have := (F.hge hF).mp z; omega
        rw [C.h_is] at z
        have a2 : ¬ k ≤ C.f (F.h v) := fun q => a1 ((C.fi hC).mpr q)
        have a3 : C.f (F.h v) = k := by
          unfold Sde.g at z
          have z' : C.s * C.f (F.h v) = C.s * k := by omega
          exact Int.eq_of_mul_eq_mul_left (by omega) z'
        omega
      · intro z
        have a1 : C.t (k + 1) ≤ F.h v := (F.hge hF).mpr h
        rw [C.h_is] at z
        have a2 : k + 1 ≤ C.f (F.h v) := (C.fi hC).mp a1
        have a3 : C.f (F.h v) = k := by
          unfold Sde.g at z
          have z' : C.s * C.f (F.h v) = C.s * k := by omega
          exact Int.eq_of_mul_eq_mul_left (by omega) z'
        omega
  · refine ⟨fun _ => .inl st, fun _ z => ?_⟩
    have b := F.hbd hF (v := C.g k)
    have ne : F.h (C.g k) ≠ C.g k := fun q => st ((F.stands hF).mp q)
    rw [C.h_is] at z
    unfold Sde.g at z b ne
    rw [← z] at b ne
    generalize C.f (F.h v) = j at *
    have ne2 : j ≠ k := fun q => ne (by rw [q])
    rcases Int.lt_or_gt_of_ne ne2 with q | q
    · have := mul_mono hC (show j ≤ k - 1 by omega)
      rw [Int.mul_sub, Int.mul_one] at this
      omega
    · have := mul_mono hC (show k + 1 ≤ j by omega)
      rw [Int.mul_add, Int.mul_one] at this
      omega

/-- the least value of the cell, from the told one on, that comes elsewhere -/
def part (F C : Sde) (k value : Int) : Option Int :=
  if C.t (k + 1) - 1 < max value (C.t k) then none
  else if (C.g k - F.o) % F.s ≠ 0 ∨ max value (C.t k) < F.b (C.t k) then some (max value (C.t k))
  else if max (max value (C.t k)) (F.b (C.t (k + 1) - 1 + 1)) ≤ C.t (k + 1) - 1 then some (max (max value (C.t k)) (F.b (C.t (k + 1) - 1 + 1))) else none
theorem part_some {w : Int} (hF : 1 ≤ F.s) (hC : 1 ≤ C.s) (hFC : F.s ≤ C.s) (h : part F C k w = some x) : w ≤ x ∧ C.t k ≤ x ∧ x < C.t (k + 1) ∧ dif F C x ∧ ∀ y, w ≤ y → C.t k ≤ y → y < x → ¬ dif F C y := by
  unfold part at h
  split at h
  · cases h
  · rename_i c1
    split at h
    · rename_i c2
      cases h
      refine ⟨by omega, by omega, by omega, ?_, fun y h1 h2 h3 => by omega⟩
      rw [dif_cell hF hC hFC (k := k) (by omega) (by omega)]
      rcases c2 with c2 | c2
      · exact .inl c2
      · exact .inr (.inl c2)
    · rename_i c2
      split at h
      · rename_i c3
        cases h
        rw [show C.t (k + 1) - 1 + 1 = C.t (k + 1) by omega] at *
        refine ⟨by omega, by omega, by omega, ?_, fun y h1 h2 h3 => ?_⟩
        · rw [dif_cell hF hC hFC (k := k) (by omega) (by omega)]
          exact .inr (.inr (by omega))
        · rw [dif_cell hF hC hFC (k := k) (by omega) (by omega)]
          omega
      · cases h
theorem part_none {w : Int} (hF : 1 ≤ F.s) (hC : 1 ≤ C.s) (hFC : F.s ≤ C.s) (h : part F C k w = none) : ∀ y, w ≤ y → C.t k ≤ y → y < C.t (k + 1) → ¬ dif F C y := by
  intro y h1 h2 h3
  unfold part at h
  rw [dif_cell hF hC hFC h2 h3]
  split at h
  · omega
  · split at h
    · cases h
    · split at h
      · cases h
      · rw [show C.t (k + 1) - 1 + 1 = C.t (k + 1) by omega] at *
        omega
def exch (F C : Sde) (w : Int) : Nat → Int → Option Int
  | 0, _ => none
  | n + 1, k => match part F C k w with
    | some x => some x
    | none => exch F C w n (k + 1)
theorem exch_some {w : Int} (hF : 1 ≤ F.s) (hC : 1 ≤ C.s) (hFC : F.s ≤ C.s) : ∀ {n : Nat} {k : Int}, exch F C w n k = some x → w ≤ x ∧ C.t k ≤ x ∧ dif F C x ∧ ∀ y, w ≤ y → C.t k ≤ y → y < x → ¬ dif F C y
  | 0, _, h => by cases h
  | n + 1, k, h => by
    unfold exch at h
    split at h
    · rename_i z e
      cases h
      obtain ⟨a, b, _, c, d⟩ := part_some hF hC hFC e
      exact ⟨a, b, c, d⟩
    · rename_i e
      obtain ⟨a, b, c, d⟩ := exch_some hF hC hFC h
      have q := part_none hF hC hFC e
      have t := C.tlt hC (k := k)
      refine ⟨a, by omega, c, fun y h1 h2 h3 => ?_⟩
      by_cases hy : y < C.t (k + 1)
      · exact q y h1 h2 hy
      · exact d y h1 (by omega) h3
theorem exch_none {w : Int} (hF : 1 ≤ F.s) (hC : 1 ≤ C.s) (hFC : F.s ≤ C.s) : ∀ {n : Nat} {k : Int}, exch F C w n k = none → ∀ y, w ≤ y → C.t k ≤ y → y < C.t (k + n) → ¬ dif F C y
  | 0, _, _ => fun y h1 h2 h3 => by simp at h3; omega
  | n + 1, k, h => fun y h1 h2 h3 => by
    unfold exch at h
    split at h
    · cases h
    · rename_i e
      by_cases hy : y < C.t (k + 1)
      · exact part_none hF hC hFC e y h1 h2 hy
      · exact exch_none hF hC hFC h y h1 (by omega) (by rw [show k + 1 + (n : Int) = k + ((n + 1 : Nat) : Int) by omega]; exact h3)
/-- thresholds by two figures on -/
theorem Sde.tper (j : Int) : A.t (k + 2 * j) = A.t k + 2 * (A.s * j) := by
  unfold Sde.t thr
  have e : A.s * (k + 2 * j) = A.s * k + 2 * (A.s * j) := by rw [Int.mul_add, ← Int.mul_assoc, Int.mul_comm A.s 2, Int.mul_assoc]
  have e2 : ((k + 2 * j) % 2 = 0) = (k % 2 = 0) := by apply propext; omega
  simp only [e, e2]
  generalize A.s * k = p
  generalize A.s * j = r
  split
  · omega
  · split
    · omega
    · split <;> omega
theorem Sde.bper (hs : 1 ≤ A.s) (j : Int) : A.b (x + 2 * (A.s * j)) = A.b x + 2 * (A.s * j) := by
  unfold Sde.b bkf
  have e : (A.o - (x + 2 * (A.s * j))) / A.s = (A.o - x) / A.s - 2 * j := by
    have : A.o - (x + 2 * (A.s * j)) = A.o - x + A.s * (-(2 * j)) := by
      rw [Int.mul_neg, Int.mul_left_comm A.s 2 j]; omega
    rw [this, Int.add_mul_ediv_left _ _ (by omega)]
    omega
  rw [e]
  have := A.tper (k := -((A.o - x) / A.s)) j
  unfold Sde.t at this
  rw [← this]
  congr 1
  omega
/-- eight cells without one: none at all -/
theorem none_all (hF : 1 ≤ F.s) (hC : 1 ≤ C.s) (hFC : F.s ≤ C.s) {w : Int} (h : ∀ y, w ≤ y → y < C.t (C.f w + 8) → ¬ dif F C y) : ∀ y, ¬ dif F C y := by
  have cw := C.inCell hC w
  generalize hk : C.f w = k at *
  have full : ∀ j : Int, k + 1 ≤ j → j ≤ k + 7 → ∀ y, C.t j ≤ y → y < C.t (j + 1) → ¬ dif F C y := fun j h1 h2 y h3 h4 => by
    have t1 := C.tmono hC (show k + 1 ≤ j from h1)
    have t2 := C.tmono hC (show j + 1 ≤ k + 8 by omega)
    exact h y (by omega) (by omega)
  have each : ∀ j : Int, k + 1 ≤ j → j ≤ k + 7 → (C.g j - F.o) % F.s = 0 ∧ F.b (C.t j) ≤ C.t j ∧ C.t (j + 1) ≤ F.b (C.t (j + 1)) := fun j h1 h2 => by
    have t1 := C.tlt hC (k := j)
    have a := full j h1 h2 (C.t j) (Int.le_refl _) t1
    rw [dif_cell hF hC hFC (Int.le_refl _) t1] at a
    have b := full j h1 h2 (C.t (j + 1) - 1) (by omega) (by omega)
    rw [dif_cell hF hC hFC (k := j) (by omega) (by omega)] at b
    omega
  obtain ⟨s1, a1, b1⟩ := each (k + 1) (by omega) (by omega)
  obtain ⟨s2, a2, b2⟩ := each (k + 2) (by omega) (by omega)
  obtain ⟨s3, a3, b3⟩ := each (k + 3) (by omega) (by omega)
  rw [show k + 1 + 1 = k + 2 by omega] at b1
  rw [show k + 2 + 1 = k + 3 by omega] at b2
  have t2 : F.b (C.t (k + 2)) = C.t (k + 2) := by omega
  have t3 : F.b (C.t (k + 3)) = C.t (k + 3) := by omega
  obtain ⟨q1, hq1⟩ := Int.dvd_of_emod_eq_zero s1
  obtain ⟨q2, hq2⟩ := Int.dvd_of_emod_eq_zero s2
  have hs : C.s = F.s * (q2 - q1) := by
    rw [Int.mul_sub, ← hq1, ← hq2]
    unfold Sde.g
    rw [Int.mul_add, Int.mul_add]
    omega
  have st : ∀ j, (C.g j - F.o) % F.s = 0 := fun j => by
    refine Int.emod_eq_zero_of_dvd ⟨q1 + (q2 - q1) * (j - (k + 1)), ?_⟩
    rw [Int.mul_add, ← hq1, ← Int.mul_assoc, ← hs]
    unfold Sde.g
    rw [Int.mul_sub]
    omega
  have th : ∀ j, F.b (C.t j) = C.t j := fun j => by
    have key : ∀ i j0 : Int, F.b (C.t j0) = C.t j0 → F.b (C.t (j0 + 2 * i)) = C.t (j0 + 2 * i) := fun i j0 e => by
      rw [C.tper]
      have e2 : C.s * i = F.s * ((q2 - q1) * i) := by rw [hs, Int.mul_assoc]
      rw [e2, F.bper hF, e]
    by_cases c : (j - k) % 2 = 0
    · have := key ((j - (k + 2)) / 2) (k + 2) t2
      rw [show k + 2 + 2 * ((j - (k + 2)) / 2) = j by omega] at this
      exact this
    · have := key ((j - (k + 3)) / 2) (k + 3) t3
      rw [show k + 3 + 2 * ((j - (k + 3)) / 2) = j by omega] at this
      exact this
  intro y
  have cy := C.inCell hC y
  rw [dif_cell hF hC hFC cy.1 cy.2, th, th]
  have := st (C.f y)
  omega
end
end Hm
set_option Elab.async false
set_option linter.all false
set_option maxRecDepth 100000
set_option maxHeartbeats 2000000
namespace Hm
open PySem L2
/-! ### words for while loops and lists of ints -/
theorem whileI {c : MT} {body : MS} {E : DEnds} {ρ : Rho} (I : Nat → Rho → Prop) (n : Nat) (h0 : I n ρ)
    (hs : ∀ m ρ (k : Rho → Prop), I m ρ → (∀ m' ρ', m' < m → I m' ρ' → k ρ') → c ρ (fun b => if b = true then body ρ { E with nx := k, ct := k, bk := E.nx } else E.nx ρ) (E.ex ρ)) : mWhile c body ρ E :=
  ⟨I, ⟨n, h0⟩, fun m ρ h => hs m ρ _ h fun m' ρ' hl hi => ⟨m', hl, hi⟩⟩
theorem isIn_ints {a : Int} {l : List Int} : D.isIn (.int a) (l.map D.int) = decide (a ∈ l) := by
  unfold D.isIn
  rw [List.any_map, Bool.eq_iff_iff, List.any_eq_true, decide_eq_true_iff]
  constructor
  · rintro ⟨y, hy, h⟩
    have : y = a := by simpa using h
    rw [← this]; exact hy
  · intro h
    exact ⟨a, h, by simp⟩
theorem flat_ints {l : List Int} : (l.map D.int).all D.flat = true := by
  rw [List.all_map, List.all_eq_true]
  intro x _; rfl
theorem idx_ints {a : Int} : ∀ {l : List Int}, a ∈ l → ∃ j, idxD (l.map D.int) (.int a) = some j ∧ l[j]? = some a
  | [], h => by cases h
  | b :: r, h => by
    rw [List.map_cons, idxD_cons]
    by_cases c : b = a
    · subst c
      exact ⟨0, by simp, rfl⟩
    · have : a ∈ r := by rcases List.mem_cons.mp h with e | e; exact absurd e.symm c; exact e
      obtain ⟨j, h1, h2⟩ := idx_ints this
      refine ⟨j + 1, ?_, by simpa using h2⟩
      rw [h1]
      simp [c]
def Sde.d (A : Sde) : D := .tup [.int A.o, .int A.s, .str A.m]
def Sde.ok (A : Sde) : Prop := SOk A.o A.s A.m
/-! common periods -/
def Sde.len (A : Sde) : Nat := (if A.m = "half_even" then 2 * A.s else A.s).toNat
def perL (p : Nat) : List Sde → Nat
  | [] => p
  | A :: r => perL (Nat.lcm p A.len) r
theorem len_bd {A : Sde} (h : A.ok) : 1 ≤ A.len ∧ A.len ≤ 2 * 10 ^ 30 := by
  have := h.s1; have := h.s2
  unfold Sde.len
  split <;> omega
theorem lcm_is {a b : Nat} (h : 0 < a) (h2 : 0 < b) : ((a : Int) / (Nat.gcd a b : Nat)) * b = (Nat.lcm a b : Nat) := by
  have e : a / Nat.gcd a b * b = Nat.lcm a b := by
    unfold Nat.lcm
    rw [Nat.mul_comm a b, Nat.mul_div_assoc b (Nat.gcd_dvd_left a b), Nat.mul_comm]
  rw [← e]
  simp
theorem lcm_le {a b : Nat} (h : 0 < a) (h2 : 0 < b) : Nat.lcm a b ≤ a * b := by
  unfold Nat.lcm
  exact Nat.div_le_self _ _
theorem perL_pos : ∀ {As : List Sde} {p : Nat}, 0 < p → (∀ A ∈ As, A.ok) → 0 < perL p As
  | [], _, h, _ => h
  | A :: r, p, h, ok => by
    show 0 < perL (Nat.lcm p A.len) r
    exact perL_pos (Nat.lcm_pos h (len_bd (ok A List.mem_cons_self)).1) fun B hB => ok B (List.mem_cons_of_mem _ hB)
theorem perL_dvd0 : ∀ {As : List Sde} {p : Nat}, p ∣ perL p As
  | [], p => Nat.dvd_refl p
  | A :: r, p => Nat.dvd_trans (Nat.dvd_lcm_left p A.len) perL_dvd0
theorem perL_dvd : ∀ {As : List Sde} {p : Nat} {A : Sde}, A ∈ As → A.len ∣ perL p As
  | B :: r, p, A, h => by
    rcases List.mem_cons.mp h with rfl | h
    · show A.len ∣ perL (Nat.lcm p A.len) r
      exact Nat.dvd_trans (Nat.dvd_lcm_right p A.len) perL_dvd0
    · show A.len ∣ perL (Nat.lcm p B.len) r
      exact perL_dvd h
theorem perL_le : ∀ {As : List Sde} {p b : Nat}, 0 < p → (∀ A ∈ As, A.ok ∧ A.len ≤ b) → perL p As ≤ p * b ^ As.length
  | [], p, b, _, _ => by simp [perL]
  | A :: r, p, b, h, ok => by
    have h1 := ok A List.mem_cons_self
    have l := (len_bd h1.1).1
    have ih := perL_le (As := r) (b := b) (Nat.lcm_pos h l) fun B hB => ok B (List.mem_cons_of_mem _ hB)
    have := lcm_le h l
    show perL (Nat.lcm p A.len) r ≤ _
    refine Nat.le_trans ih ?_
    rw [List.length_cons, Nat.pow_succ, Nat.mul_comm (b ^ r.length) b, ← Nat.mul_assoc]
    exact Nat.mul_le_mul_right _ (Nat.le_trans this (Nat.mul_le_mul_left _ h1.2))
end Hm
set_option Elab.async false
set_option linter.all false
set_option maxRecDepth 100000
set_option maxHeartbeats 400000
namespace Hm
open PySem L2
/-! ### texts as lists of signs -/
abbrev Sx (l : List Nat) : Str := ⟨l.toArray⟩
theorem sx_len {l : List Nat} : (Sx l).length = l.length := by show l.toArray.size = _; simp
theorem sx_app {a b : List Nat} : Sx a ++ Sx b = Sx (a ++ b) := by
  show (⟨a.toArray ++ b.toArray⟩ : Str) = _
  simp
theorem sx_inj {a b : List Nat} (h : Sx a = Sx b) : a = b := by
  injection h with h
  simpa using congrArg Array.toList h
theorem sx_iff {a b : List Nat} : Sx a = Sx b ↔ a = b := ⟨sx_inj, fun h => by rw [h]⟩
theorem join_sx {a : List Nat} {ys : List (List Nat)} : Txt.join (Sx a) (ys.map Sx) = Sx (TL.joinL a ys) := SX.join_S a ys
theorem mul_sx {c : Nat} {n : Int} : Txt.mul (Sx [c]) n = Sx (List.replicate n.toNat c) := by
  have h := PyProof.Rows.mul_one_list c n
  have e : ∀ z : Str, z = Sx z.cps.toList := fun z => by cases z; simp
  rw [e (Txt.mul (Sx [c]) n)]
  congr 2
theorem cut_sx {l : List Nat} {lo hi : Option Int} : cutS (Sx l) lo hi = Sx ((l.drop (HT.sIx l.length 0 lo)).take (HT.sIx l.length l.length hi - HT.sIx l.length 0 lo)) := by
  unfold cutS
  rw [sx_len]
theorem six_nat {n d : Nat} {i : Int} (h : 0 ≤ i) : HT.sIx n d (some i) = min i.toNat n := by
  obtain ⟨k, rfl⟩ := Int.eq_ofNat_of_zero_le h
  rw [HT.sIx_nat, Int.toNat_natCast]
theorem take_min {α : Type} {l : List α} {i : Nat} : l.take (min i l.length) = l.take i := by
  by_cases c : i ≤ l.length
  · rw [Nat.min_eq_left c]
  · rw [Nat.min_eq_right (by omega), List.take_length, List.take_of_length_le (by omega)]
theorem take_sx {l : List Nat} {i : Int} (h : 0 ≤ i) : cutS (Sx l) none (some i) = Sx (l.take i.toNat) := by
  rw [cut_sx, six_nat h]
  show Sx ((l.drop 0).take (min i.toNat l.length - 0)) = _
  rw [List.drop_zero, Nat.sub_zero, take_min]
theorem drop_sx {l : List Nat} {i : Int} (h : 0 ≤ i) (h2 : i ≤ l.length) : cutS (Sx l) (some i) none = Sx (l.drop i.toNat) := by
  rw [cut_sx, six_nat h]
  show Sx ((l.drop (min i.toNat l.length)).take (l.length - min i.toNat l.length)) = _
  rw [Nat.min_eq_left (by omega), List.take_of_length_le (by rw [List.length_drop]; exact Nat.le_refl _)]
theorem mid_sx {l : List Nat} {i j : Int} (h : 0 ≤ i) (h1 : i ≤ j) (h2 : i ≤ l.length) : cutS (Sx l) (some i) (some j) = Sx ((l.drop i.toNat).take (j - i).toNat) := by
  rw [cut_sx, six_nat h, six_nat (by omega), Nat.min_eq_left (show i.toNat ≤ l.length by omega)]
  have e : (l.drop i.toNat).take (j - i).toNat = (l.drop i.toNat).take (min j.toNat l.length - i.toNat) := by
    rw [← take_min (i := (j - i).toNat), List.length_drop]
    congr 1
    omega
  rw [e]
/-- single signs -/
abbrev sg1 (c : Nat) : D := .str (Sx [c])
theorem join_ones : ∀ l : List Nat, TL.joinL [] (l.map fun c => [c]) = l
  | [] => rfl
  | [c] => rfl
  | c :: d :: r => by
    show [c] ++ ([] ++ TL.joinL [] ((d :: r).map fun c => [c])) = _
    rw [join_ones (d :: r)]
    rfl
theorem ones_sum (l : List Nat) : (((l.map fun c => [c]).map Sx).map (·.length)).sum = l.length := by
  induction l with
  | nil => rfl
  | cons c r ih =>
    rw [List.map_cons, List.map_cons, List.map_cons, List.sum_cons, ih, sx_len, List.length_cons]
    simp
    omega
theorem join_sg {l : List Nat} {Q : DK} (h : l.length ≤ 16777216) : dJoin (.str (Sx [])) (.lst (l.map sg1)) Q = Q (.str (Sx l)) := by
  rw [dJoin_eq]
  have e : l.map sg1 = ((l.map fun c => [c]).map Sx).map D.str := by rw [List.map_map, List.map_map]; rfl
  have j : Txt.join (Sx []) ((l.map fun c => [c]).map Sx) = Sx l := by rw [join_sx, join_ones]
  apply propext
  constructor
  · rintro ⟨ys, h1, _, h3⟩
    have := map_str_inj (e.symm.trans h1)
    subst this
    rw [j] at h3
    exact h3
  · intro q
    refine ⟨_, e, ?_, by rw [j]; exact q⟩
    rw [ones_sum, sx_len]
    simp
    exact h
theorem str_e : Str.ofString "" = Sx [] := by decide +kernel
theorem join_e {l : List Nat} {Q : DK} (h : l.length ≤ 16777216) : dJoin (.str "") (.lst (l.map sg1)) Q = Q (.str (Sx l)) := by rw [str_e]; exact join_sg h
/-! ### digits -/
def dL (n : Nat) : List Nat := if n = 0 then [] else (48 + n % 10) :: dL (n / 10)
termination_by n
decreasing_by omega
theorem dL_zero : dL 0 = [] := by unfold dL; rfl
theorem dL_pos {n : Nat} (h : n ≠ 0) : dL n = (48 + n % 10) :: dL (n / 10) := by rw [dL, if_neg h]
theorem dL_len : ∀ {k n : Nat}, n < 10 ^ k → (dL n).length ≤ k
  | 0, n, h => by
    have : n = 0 := by simpa using h
    rw [this, dL_zero]; exact Nat.le_refl _
  | k + 1, n, h => by
    by_cases c : n = 0
    · rw [c, dL_zero]; exact Nat.zero_le _
    · rw [dL_pos c, List.length_cons]
      have := dL_len (k := k) (n := n / 10) (by rw [Nat.pow_succ] at h; omega)
      omega
def dP (n : Nat) : List Nat := if n = 0 then [48] else (dL n).reverse
theorem dig_at {i : Nat} {Q : DK} (h : i < 10) : dIx (.str "0123456789") (.int (i : Int)) Q = Q (sg1 (48 + i)) := by
  have e : (Str.ofString "0123456789") = ⟨#[48,49,50,51,52,53,54,55,56,57]⟩ := by decide +kernel
  rw [e]
  apply propext
  show (∃ c, _ ≤ sizeLine ∧ atI ([48,49,50,51,52,53,54,55,56,57] : List Nat) (i : Int) = some c ∧ Q (.str ⟨#[c]⟩)) ↔ _
  have a : atI ([48,49,50,51,52,53,54,55,56,57] : List Nat) (i : Int) = some (48 + i) := by
    have : i = 0 ∨ i = 1 ∨ i = 2 ∨ i = 3 ∨ i = 4 ∨ i = 5 ∨ i = 6 ∨ i = 7 ∨ i = 8 ∨ i = 9 := by omega
    rcases this with rfl | rfl | rfl | rfl | rfl | rfl | rfl | rfl | rfl | rfl <;> rfl
  rw [a]
  constructor
  · rintro ⟨c, _, h1, h2⟩
    cases h1
    exact h2
  · intro q
    exact ⟨48 + i, by rw [sizeLine_eq]; decide, rfl, q⟩
/-! ### groups of three -/
def gG : List Nat → List Nat
  | [] => []
  | c :: r => (if (r.length + 1) % 3 = 0 then [44] else []) ++ c :: gG r
def grp : List Nat → List Nat
  | [] => []
  | c :: r => c :: gG r
def ch3 : List Nat → List (List Nat)
  | a :: b :: c :: r => [a, b, c] :: ch3 r
  | _ => []
theorem ch3_ne {l : List Nat} (h : 3 ≤ l.length) : ch3 l ≠ [] := by
  match l, h with
  | a :: b :: c :: r, _ => unfold ch3; simp
theorem joinL_cons {s p : List Nat} {r : List (List Nat)} (h : r ≠ []) : TL.joinL s (p :: r) = p ++ (s ++ TL.joinL s r) := by
  match r, h with
  | q :: r, _ => rfl
theorem gG_ch3 : ∀ {k : Nat} {l : List Nat}, l.length = 3 * (k + 1) → gG l = 44 :: TL.joinL [44] (ch3 l)
  | k, l, h => by
    match l, h with
    | a :: b :: c :: r, h =>
      simp only [List.length_cons] at h
      have e1 : (r.length + 1 + 1 + 1) % 3 = 0 := by omega
      have e2 : ¬ (r.length + 1 + 1) % 3 = 0 := by omega
      have e3 : ¬ (r.length + 1) % 3 = 0 := by omega
      have step : gG (a :: b :: c :: r) = 44 :: a :: b :: c :: gG r := by
        show (if (r.length + 1 + 1 + 1) % 3 = 0 then [44] else []) ++ a :: ((if (r.length + 1 + 1) % 3 = 0 then [44] else []) ++ b :: ((if (r.length + 1) % 3 = 0 then [44] else []) ++ c :: gG r)) = _
        rw [if_pos e1, if_neg e2, if_neg e3]
        rfl
      rw [step]
      show _ = 44 :: TL.joinL [44] ([a, b, c] :: ch3 r)
      match k, h with
      | 0, h =>
        have : r = [] := List.length_eq_zero_iff.mp (by omega)
        subst this
        rfl
      | k + 1, h =>
        rw [joinL_cons (ch3_ne (by omega)), gG_ch3 (k := k) (l := r) (by omega)]
        rfl
/-- the parts that the program makes -/
def parts3 (l : List Nat) : List (List Nat) := (if 0 < l.length % 3 then [l.take (l.length % 3)] else []) ++ ch3 (l.drop (l.length % 3))
theorem parts_join {l : List Nat} (h : l ≠ []) : TL.joinL [44] (parts3 l) = grp l := by
  have l0 : 0 < l.length := List.length_pos_iff.mpr h
  have m := Nat.mod_add_div l.length 3
  by_cases c : l.length % 3 = 0
  · unfold parts3
    rw [if_neg (by omega), c, List.drop_zero, List.nil_append]
    have := gG_ch3 (k := l.length / 3 - 1) (l := l) (by omega)
    match l, h with
    | a :: r, _ =>
      have e : gG (a :: r) = [44] ++ a :: gG r := by
        show (if (r.length + 1) % 3 = 0 then [44] else []) ++ _ = _
        rw [if_pos (by simpa using c)]
      rw [e] at this
      exact (List.cons.inj this).2.symm
  · unfold parts3
    rw [if_pos (by omega)]
    have key : ∀ f r : List Nat, f.length = 1 ∨ f.length = 2 → r.length % 3 = 0 → TL.joinL [44] ([f] ++ ch3 r) = grp (f ++ r) := by
      intro f r hf hr
      have tail : TL.joinL [44] ([f] ++ ch3 r) = f ++ gG r := by
        by_cases z : r = []
        · subst z
          show f = f ++ []
          simp
        · have r0 : 0 < r.length := List.length_pos_iff.mpr z
          have rm := Nat.mod_add_div r.length 3
          rw [List.singleton_append, joinL_cons (ch3_ne (by omega)), gG_ch3 (k := r.length / 3 - 1) (by omega)]
          rfl
      rw [tail]
      match f, hf with
      | [a], _ => rfl
      | [a, b], _ =>
        show a :: b :: gG r = a :: ((if (r.length + 1) % 3 = 0 then [44] else []) ++ b :: gG r)
        rw [if_neg (by omega)]
        rfl
    have := key (l.take (l.length % 3)) (l.drop (l.length % 3)) (by rw [List.length_take]; omega) (by rw [List.length_drop]; omega)
    rw [this, List.take_append_drop]
theorem ch3_rows : ∀ {k : Nat} {l : List Nat}, l.length = 3 * k → ch3 l = (List.range k).map fun i => (l.drop (3 * i)).take 3
  | 0, l, h => by
    have : l = [] := List.length_eq_zero_iff.mp (by omega)
    subst this
    rfl
  | k + 1, l, h => by
    match l, h with
    | a :: b :: c :: r, h =>
      simp only [List.length_cons] at h
      rw [List.range_succ_eq_map, List.map_cons, List.map_map]
      show [a, b, c] :: ch3 r = _
      rw [ch3_rows (k := k) (l := r) (by omega)]
      congr 1
theorem gG_len : ∀ l : List Nat, (gG l).length ≤ 2 * l.length
  | [] => Nat.le_refl _
  | c :: r => by
    have := gG_len r
    unfold gG
    split <;> simp <;> omega
theorem grp_len {l : List Nat} : (grp l).length ≤ 2 * l.length := by
  match l with
  | [] => exact Nat.le_refl _
  | c :: r =>
    have := gG_len r
    show (c :: gG r).length ≤ _
    simp; omega
theorem ch3_len : ∀ l : List Nat, (ch3 l).length ≤ l.length ∧ ((ch3 l).map (·.length)).sum ≤ l.length
  | [] => ⟨Nat.le_refl _, Nat.le_refl _⟩
  | [_] => ⟨Nat.zero_le _, Nat.zero_le _⟩
  | [_, _] => ⟨Nat.zero_le _, Nat.zero_le _⟩
  | a :: b :: c :: r => by
    obtain ⟨h1, h2⟩ := ch3_len r
    show (ch3 r).length + 1 ≤ r.length + 3 ∧ (([a, b, c] :: ch3 r).map (·.length)).sum ≤ r.length + 3
    rw [List.map_cons, List.sum_cons]
    simp only [List.length_cons, List.length_nil]
    omega
theorem parts_len {l : List Nat} : (parts3 l).length ≤ l.length + 1 ∧ ((parts3 l).map (·.length)).sum ≤ l.length := by
  obtain ⟨h1, h2⟩ := ch3_len (l.drop (l.length % 3))
  rw [List.length_drop] at h1 h2
  unfold parts3
  split
  · rw [List.singleton_append, List.map_cons, List.sum_cons, List.length_cons, List.length_take]
    omega
  · rw [List.nil_append]
    omega
theorem join_parts {s : List Nat} {ps : List (List Nat)} {Q : DK} (h : (ps.map (·.length)).sum + ps.length * s.length ≤ 16777216) : dJoin (.str (Sx s)) (.lst (ps.map fun p => D.str (Sx p))) Q = Q (.str (Sx (TL.joinL s ps))) := by
  rw [dJoin_eq]
  have e : (ps.map fun p => D.str (Sx p)) = (ps.map Sx).map D.str := by rw [List.map_map]; rfl
  apply propext
  constructor
  · rintro ⟨ys, h1, _, h3⟩
    have := map_str_inj (e.symm.trans h1)
    subst this
    rw [join_sx] at h3
    exact h3
  · intro q
    refine ⟨_, e, ?_, by rw [join_sx]; exact q⟩
    have e2 : ((ps.map Sx).map (·.length)) = ps.map (·.length) := by
      rw [List.map_map]
      exact List.map_congr_left fun p _ => sx_len
    rw [e2, List.length_map, sx_len]
    exact h
theorem str_comma : Str.ofString "," = Sx [44] := by decide +kernel
theorem str_dot : Str.ofString "." = Sx [46] := by decide +kernel
theorem str_minus : Str.ofString "-" = Sx [45] := by decide +kernel
theorem str_plus : Str.ofString "+" = Sx [43] := by decide +kernel
theorem str_blank : Str.ofString " " = Sx [32] := by decide +kernel
theorem str_nought : Str.ofString "0" = Sx [48] := by decide +kernel
/-! ### the text of a figure -/
def padD (n pl : Nat) : List Nat := List.replicate (pl + 1 - (dL n).length) 48 ++ (dL n).reverse
theorem padD_prog {n pl : Nat} : (if (dP n).length ≤ pl then List.replicate (pl + 1 - (dP n).length) 48 ++ dP n else dP n) = padD n pl := by
  unfold dP padD
  by_cases c : n = 0
  · subst c
    rw [dL_zero]
    simp
    split
    · rename_i h
      have : pl + 1 = pl - 1 + 1 + 1 := by omega
      rw [show pl + 1 = pl + 1 from rfl, List.replicate_succ' (n := pl)]
    · rename_i h
      have : pl = 0 := by omega
      subst this; rfl
  · rw [if_neg c]
    have : 0 < (dL n).length := by rw [dL_pos c]; simp
    rw [List.length_reverse]
    split
    · rfl
    · rw [show pl + 1 - (dL n).length = 0 by omega]; rfl
theorem padD_len {n pl : Nat} : (padD n pl).length = max (pl + 1) (dL n).length := by
  unfold padD
  rw [List.length_append, List.length_replicate, List.length_reverse]
  omega
def rowF (n pl : Nat) (gr : Bool) : List Nat := if gr = true then grp ((padD n pl).take ((padD n pl).length - pl)) else (padD n pl).take ((padD n pl).length - pl)
def rowP (n pl : Nat) (gr : Bool) : List Nat := if 0 < pl then rowF n pl gr ++ [46] ++ (padD n pl).drop ((padD n pl).length - pl) else rowF n pl gr
def rowS (f : Int) (pl : Nat) (sg gr : Bool) : List Nat := if f < 0 then 45 :: rowP f.natAbs pl gr else if sg = true ∧ 0 < f then 43 :: rowP f.natAbs pl gr else rowP f.natAbs pl gr
def txL (f : Int) (pl : Nat) (sg gr : Bool) (w : Nat) : List Nat := List.replicate (w - (rowS f pl sg gr).length) 32 ++ rowS f pl sg gr
theorem rowS_len {f : Int} {pl : Nat} {sg gr : Bool} (h : f.natAbs < 10 ^ 100) (hp : pl ≤ 100) : (rowS f pl sg gr).length ≤ 500 := by
  have h1 := dL_len h
  have h2 := padD_len (n := f.natAbs) (pl := pl)
  have h3 : (rowF f.natAbs pl gr).length ≤ 210 := by
    unfold rowF
    split
    · refine Nat.le_trans grp_len ?_
      rw [List.length_take]; omega
    · rw [List.length_take]; omega
  have h4 : (rowP f.natAbs pl gr).length ≤ 400 := by
    unfold rowP
    split
    · simp; omega
    · omega
  unfold rowS
  split
  · simp; omega
  · split
    · simp; omega
    · omega
end Hm
set_option Elab.async false
set_option linter.all false
set_option maxRecDepth 100000
set_option maxHeartbeats 400000
namespace Hm
open PySem L2
section
variable {Q : DK} {W : XKD} {xs : List D} {l : List Nat} {n c : Nat}
theorem one_inj {a b : Nat} (h : (⟨#[a]⟩ : Str) = ⟨#[b]⟩) : a = b := by
  have := congrArg (fun z : Str => z.cps.toList) h
  simpa using this
theorem idx_one (h : isDg c = true) : dIdxS (.str "0123456789") (.str ⟨#[c]⟩) Q = Q (.int ((c : Int) - 48)) := by
  rw [dIdxS_eq]
  have e : ∃ rest, Builtin.Str.occurrences (Str.ofString "0123456789") ⟨#[c]⟩ 0 (Str.ofString "0123456789").length 1 = (c - 48) :: rest := by
    have hc : 48 ≤ c ∧ c ≤ 57 := by simpa [isDg] using h
    have : c = 48 ∨ c = 49 ∨ c = 50 ∨ c = 51 ∨ c = 52 ∨ c = 53 ∨ c = 54 ∨ c = 55 ∨ c = 56 ∨ c = 57 := by omega
    rcases this with rfl | rfl | rfl | rfl | rfl | rfl | rfl | rfl | rfl | rfl <;> exact ⟨[], by decide +kernel⟩
  obtain ⟨rest, e⟩ := e
  have hc : 48 ≤ c := by
    have : 48 ≤ c ∧ c ≤ 57 := by simpa [isDg] using h
    exact this.1
  have ec : (((c - 48 : Nat)) : Int) = (c : Int) - 48 := by omega
  apply propext
  constructor
  · rintro ⟨i, r, e2, q⟩
    rw [e] at e2
    cases e2
    rw [← ec]; exact q
  · intro q
    exact ⟨_, _, e, by rw [ec]; exact q⟩
end
/-! the number of some digits -/
def valL (ds : List Nat) : Int := ds.foldl (fun (a : Int) (c : Nat) => a * 10 + ((c : Int) - 48)) 0
theorem valL_snoc {ds : List Nat} {c : Nat} : valL (ds ++ [c]) = valL ds * 10 + ((c : Int) - 48) := by
  unfold valL
  rw [List.foldl_append]
  rfl
theorem isDg_iff {c : Nat} : isDg c = true ↔ 48 ≤ c ∧ c ≤ 57 := by unfold isDg; exact decide_eq_true_iff
theorem snoc_ind {α : Type} {P : List α → Prop} (h0 : P []) (hs : ∀ l a, P l → P (l ++ [a])) (l : List α) : P l := by
  have : ∀ r : List α, P r.reverse := by
    intro r
    induction r with
    | nil => exact h0
    | cons a r ih => rw [List.reverse_cons]; exact hs _ _ ih
  have h := this l.reverse
  rwa [List.reverse_reverse] at h
theorem valL_bd {ds : List Nat} : (∀ c ∈ ds, isDg c = true) → 0 ≤ valL ds ∧ valL ds < 10 ^ ds.length := by
  refine snoc_ind (P := fun ds => (∀ c ∈ ds, isDg c = true) → 0 ≤ valL ds ∧ valL ds < 10 ^ ds.length) (fun _ => by decide) (fun l a ih h => ?_) ds
  obtain ⟨h1, h2⟩ := ih fun c hc => h c (List.mem_append_left _ hc)
  have ha := isDg_iff.mp (h a (List.mem_append_right _ (List.mem_singleton.mpr rfl)))
  rw [valL_snoc, List.length_append, List.length_singleton, Int.pow_succ]
  omega
theorem pow10_nat {k : Nat} : ((10 : Int) ^ k) = (((10 ^ k : Nat)) : Int) := by simp
theorem valL_mul {ds : List Nat} (h : ∀ c ∈ ds, isDg c = true) (hl : ds.length ≤ rdMost) : CMulW (valL ds) 10 := by
  obtain ⟨h1, h2⟩ := valL_bd h
  refine wide_mul (a := 80000) (b := 4) ?_ (by decide) (by decide) (by decide) (by decide)
  have h3 : (valL ds).natAbs < 10 ^ ds.length := by
    rw [pow10_nat] at h2
    omega
  refine Nat.lt_of_lt_of_le h3 ?_
  have h4 : (10 : Nat) ^ ds.length ≤ 16 ^ ds.length := Nat.pow_le_pow_left (by decide) _
  refine Nat.le_trans h4 ?_
  rw [show (16 : Nat) = 2 ^ 4 from rfl, ← Nat.pow_mul]
  exact Nat.pow_le_pow_right (by decide) (by unfold rdMost at hl; omega)
theorem take_snoc {l : List Nat} {i c : Nat} (h : l[i]? = some c) : l.take (i + 1) = l.take i ++ [c] := by
  rw [List.take_add_one, h]; rfl
theorem signs_get {l : List Nat} {i : Nat} {x : D} (h : (signsD (Sx l))[i]? = some x) : ∃ c, l[i]? = some c ∧ x = .str ⟨#[c]⟩ := by
  unfold signsD at h
  rw [List.getElem?_map] at h
  have e : (Sx l).cps.toList = l := by simp
  rw [e] at h
  cases e2 : l[i]? with
  | none => rw [e2] at h; cases h
  | some c => rw [e2] at h; exact ⟨c, rfl, (Option.some.inj h).symm⟩
theorem signs_len {l : List Nat} : (signsD (Sx l)).length = l.length := by unfold signsD; simp
section
variable {Q : DK} {W : XKD} {l : List Nat}
theorem c_read_text (hl : l.length ≤ rdMost) (h : match readP l with
    | .inl (neg, ds, rest) => (∀ c ∈ ds ++ rest, isDg c = true) ∧ (ds ++ rest).length ≤ rdMost ∧ Q (.tup [.int (if neg = true then -valL (ds ++ rest) else valL (ds ++ rest)), .int (rest.length : Nat)])
    | .inr k => W ⟨"InvalidText", [("at", .int (k : Nat))]⟩) : m_read_text [.str (Sx l)] Q W := by
  unfold m_read_text
  simp only [mFun_eq]
  refine ⟨rfl, ?_⟩
  refine stI [.dat (.str (Sx l)), .un, .un, .un, .un, .un, .un] (fun k hk => by simpa using hk) ?_
  show (Sx l).length ≤ rdMost ∧ _
  refine ⟨by rw [sx_len]; exact hl, ?_⟩
  have elx : (Sx l).cps.toList = l := by simp
  rw [elx]
  cases e : readP l with
  | inr k => rw [e] at h; exact h
  | inl p =>
    obtain ⟨neg, ds, rest⟩ := p
    rw [e] at h
    obtain ⟨hd, hlen, q⟩ := h
    dsimp only
    have hsz : (ds ++ rest).length ≤ sizeLine := by rw [sizeLine_eq]; unfold rdMost at hlen; omega
    rw [List.length_append] at hsz
    unfold m_read_tail
    refine stI [.dat (.str (Sx l)), .un, .dat (.bl neg), .dat (.str (Sx ds)), .dat (.str (Sx rest)), .dat (.int 0), .un] (fun k hk => by simpa using hk) ?_
    refine stP (fun ρ => ∃ x, ρ = [.dat (.str (Sx l)), .un, .dat (.bl neg), .dat (.str (Sx ds)), .dat (.str (Sx rest)), .dat (.int (valL (ds ++ rest))), x]) (fun k hk => ?_) ?_
    · simp only [mForTx_eq, mOp_eq, mVar_eq, List.getElem?_cons_succ, List.getElem?_cons_zero, datOf_dat, dAdd_ss, asStr_eq, sx_app]
      refine ⟨by rw [sx_len, sx_len]; exact hsz, ?_⟩
      refine forL (fun i ρ => ∃ x, ρ = [.dat (.str (Sx l)), .un, .dat (.bl neg), .dat (.str (Sx ds)), .dat (.str (Sx rest)), .dat (.int (valL ((ds ++ rest).take i))), x]) ⟨_, rfl⟩ ?_ ?_
      · rintro ρ ⟨x, rfl⟩
        rw [signs_len, List.take_length]
        exact hk _ ⟨x, rfl⟩
      · rintro i x ρ k2 hx ⟨y, rfl⟩ hk2
        obtain ⟨c, hc, rfl⟩ := signs_get hx
        have hdc := hd c (List.mem_of_getElem? hc)
        have sub : ∀ c ∈ (ds ++ rest).take i, isDg c = true := fun c hc => hd c (List.mem_of_mem_take hc)
        have cm := valL_mul sub (by rw [List.length_take]; omega)
        simp [k_DIGITS]
        refine ⟨cm, ?_⟩
        rw [idx_one hdc]
        refine hk2 _ ⟨.dat (.str ⟨#[c]⟩), ?_⟩
        rw [take_snoc hc, valL_snoc]
    · rintro ρ ⟨x, rfl⟩
      have hr : rest.length ≤ sizeLine := by omega
      cases neg with
      | true => simp [sx_len]; exact ⟨hr, by simpa using q⟩
      | false => simp [sx_len]; exact ⟨hr, by simpa using q⟩
end
/-! the digits of a text -/
theorem runM_pre {r : List Nat} {o : Option Nat} : runM r o = r.take (runM r o).length := by
  have h : runM r o <+: r := by
    have h : runD r <+: r := List.takeWhile_prefix _
    cases o with
    | none => exact h
    | some m => exact (List.take_prefix m _).trans h
  exact List.prefix_iff_eq_take.mp h
theorem runM_dig {r : List Nat} {o : Option Nat} : ∀ c ∈ runM r o, isDg c = true := by
  have h : ∀ {r : List Nat}, ∀ c ∈ runD r, isDg c = true := by
    intro r
    induction r with
    | nil => intro c hc; cases hc
    | cons a r ih =>
      intro c hc
      unfold runD at hc
      rw [List.takeWhile_cons] at hc
      cases ha : isDg a with
      | true =>
        rw [ha, if_pos rfl] at hc
        rcases List.mem_cons.mp hc with rfl | hc
        · exact ha
        · exact ih c hc
      | false => rw [ha, if_neg (by simp)] at hc; cases hc
  intro c hc
  cases o with
  | none => exact h c hc
  | some m => exact h c (List.mem_of_mem_take hc)
theorem fil_self {ds : List Nat} (h : ∀ c ∈ ds, isDg c = true) : ds.filter isDg = ds := List.filter_eq_self.mpr h
theorem grpF_dig : ∀ {k : Nat} {r ds : List Nat} {j : Nat}, grpF k r = .inl (ds, j) → (r.take j).filter isDg = ds
  | 0, r, ds, j, h => by cases h; rfl
  | k + 1, r, ds, j, h => by
    unfold grpF at h
    by_cases c : r.head? = some 44
    · rw [if_pos c] at h
      by_cases c3 : (runM (r.drop 1) (some 3)).length < 3
      · rw [if_pos c3] at h; cases h
      · rw [if_neg c3] at h
        have e3 := runM3 c3
        cases e : grpF k (r.drop 4) with
        | inr i => rw [e] at h; cases h
        | inl p =>
          obtain ⟨ds', j'⟩ := p
          rw [e] at h
          cases h
          have ih := grpF_dig e
          cases r with
          | nil => cases c
          | cons a t =>
            cases c
            have ep := runM_pre (r := t) (o := some 3)
            have e3' : (runM t (some 3)).length = 3 := e3
            rw [e3'] at ep
            have et : t.take (j' + 3) = runM t (some 3) ++ (t.drop 3).take j' := by
              rw [ep, Nat.add_comm, List.take_add]
            rw [show j' + 4 = (j' + 3) + 1 from rfl, List.take_succ_cons, List.filter_cons_of_neg (by decide), et, List.filter_append, fil_self runM_dig]
            have ih' : ((t.drop 3).take j').filter isDg = ds' := ih
            rw [ih']
            rfl
    · rw [if_neg c] at h; cases h; rfl
theorem frontF_dig {r ds : List Nat} {j : Nat} (h : frontF r = .inl (ds, j)) : (r.take j).filter isDg = ds := by
  unfold frontF at h
  by_cases h0 : r.head? = some 48
  · rw [if_pos h0] at h
    cases h
    cases r with
    | nil => cases h0
    | cons c r => cases h0; rfl
  rw [if_neg h0] at h
  by_cases h1 : (runD r).length < 1
  · rw [if_pos h1] at h; cases h
  rw [if_neg h1] at h
  have ep : runD r = r.take (runD r).length := runM_pre (o := none)
  have ed : (runD r).filter isDg = runD r := fil_self (runM_dig (o := none))
  by_cases h3 : (runD r).length ≤ 3
  · rw [if_pos h3] at h
    cases e : grpF r.length (r.drop (runD r).length) with
    | inr i => rw [e] at h; cases h
    | inl p =>
      obtain ⟨ds', j'⟩ := p
      rw [e] at h
      cases h
      rw [List.take_add, ← ep, List.filter_append, ed, grpF_dig e]
  · rw [if_neg h3] at h
    cases h
    rw [← ep, ed]
/-- what a good text is made of -/
theorem readP_dig {l ds rest : List Nat} {neg : Bool} (h : readP l = .inl (neg, ds, rest)) : (l.drop (signAt l)).filter isDg = ds ++ rest ∧ neg = decide ((l.drop (blanks l)).head? = some 45) ∧
    ∃ k, frontF (l.drop (signAt l)) = .inl (ds, k) ∧ ((rest = [] ∧ signAt l + k = l.length) ∨ ((l.drop (signAt l + k)).head? = some 46 ∧ rest = runM (l.drop (signAt l + k + 1)) (some 60) ∧ ¬ rest.length < 1 ∧ signAt l + k + 1 + rest.length = l.length)) := by
  unfold readP at h
  cases ef : frontF (l.drop (signAt l)) with
  | inr j => rw [ef] at h; cases h
  | inl p =>
    obtain ⟨ds', k⟩ := p
    rw [ef] at h
    dsimp only at h
    have hk := (frontF_le ef).1
    rw [List.length_drop] at hk
    have hs := signAt_le (l := l)
    have hd := frontF_dig ef
    have split : (l.drop (signAt l)).filter isDg = ds' ++ (l.drop (signAt l + k)).filter isDg := by
      conv => lhs; rw [← List.take_append_drop k (l.drop (signAt l)), List.filter_append, hd, List.drop_drop]
    unfold endP at h
    by_cases h46 : (l.drop (signAt l + k)).head? = some 46
    · rw [if_pos h46] at h
      by_cases h1 : (runM (l.drop (signAt l + k + 1)) (some 60)).length < 1
      · rw [if_pos h1] at h; cases h
      · rw [if_neg h1] at h
        dsimp only at h
        have l1 := runM_len (r := l.drop (signAt l + k + 1)) (o := some 60)
        rw [List.length_drop] at l1
        have hlt := head_lt h46
        by_cases he : signAt l + k + 1 + (runM (l.drop (signAt l + k + 1)) (some 60)).length < l.length
        · rw [if_pos he] at h; cases h
        · rw [if_neg he] at h
          cases h
          refine ⟨?_, rfl, k, rfl, .inr ⟨h46, rfl, h1, by omega⟩⟩
          rw [split]
          congr 1
          cases e : l.drop (signAt l + k) with
          | nil => rw [e] at h46; cases h46
          | cons c r =>
            rw [e] at h46
            cases h46
            have er := drop_step e
            rw [List.filter_cons_of_neg (by decide), er]
            have ep := runM_pre (r := r) (o := some 60)
            rw [er] at l1 he
            have hr : r.length = l.length - (signAt l + k + 1) := by rw [← er, List.length_drop]
            rw [List.take_of_length_le (by omega)] at ep
            rw [ep]
            exact fil_self fun c hc => runM_dig (r := r) (o := some 60) c (by rw [ep]; exact hc)
    · rw [if_neg h46] at h
      dsimp only at h
      by_cases he : signAt l + k < l.length
      · rw [if_pos he] at h; cases h
      · rw [if_neg he] at h
        cases h
        refine ⟨?_, rfl, k, rfl, .inl ⟨rfl, by omega⟩⟩
        rw [split, List.drop_of_length_le (by omega)]
        rfl
end Hm
set_option Elab.async false
set_option linter.all false
set_option maxRecDepth 100000
set_option maxHeartbeats 4000000
namespace Hm
open PySem L2
section
variable {o s k v i : Int} {m x : Str} {b : Bool} {xs : List D} {Q : DK} {W : XKD}
theorem sm_ob {i : Int} (h1 : -(10 ^ 280) ≤ i) (h2 : i ≤ 10 ^ 280) : Sm i := by
  unfold Sm
  have : i.natAbs ≤ 10 ^ 280 := by omega
  have p : (2 : Nat) ^ 1000 < 2 ^ 4000 := Nat.pow_lt_pow_right (by decide) (by decide)
  exact Nat.lt_of_le_of_lt this (Nat.lt_trans (by decide +kernel) p)
theorem all2 {P : D → Prop} {a b : D} (ha : P a) (hb : P b) : ∀ d ∈ [a, b], P d := by simp [ha, hb]
theorem all3 {P : D → Prop} {a b c : D} (ha : P a) (hb : P b) (hc : P c) : ∀ d ∈ [a, b, c], P d := by simp [ha, hb, hc]
theorem all5 {P : D → Prop} {a b c d e : D} (ha : P a) (hb : P b) (hc : P c) (hd : P d) (he : P e) : ∀ x ∈ [a, b, c, d, e], P x := by simp [ha, hb, hc, hd, he]
theorem mul_bd {a b A B : Int} (h1 : 0 ≤ a) (h2 : a ≤ A) (h3 : -B ≤ b) (h4 : b ≤ B) : -(A * B) ≤ a * b ∧ a * b ≤ A * B := by
  have hB : 0 ≤ B := by omega
  have e1 : a * b ≤ a * B := Int.mul_le_mul_of_nonneg_left h4 h1
  have e2 : a * B ≤ A * B := Int.mul_le_mul_of_nonneg_right h2 hB
  have e3 : a * (-B) ≤ a * b := Int.mul_le_mul_of_nonneg_left h3 h1
  rw [Int.mul_neg] at e3
  omega
theorem SOk.big (S : SOk o s m) : s < 2 ^ 8000 := (lim_ok (by have := S.s1; omega) (by have := S.s2; omega)).2
theorem fig_bd (S : SOk o s m) (h1 : -(10 ^ 250) ≤ v) (h2 : v ≤ 10 ^ 250) : -(10 ^ 252) ≤ figf o s m v ∧ figf o s m v ≤ 10 ^ 252 := by
  have hb := div_bd (x := v - o) (b := 10 ^ 251) S.s1 (by have := S.o2; omega) (by have := S.o1; omega)
  unfold figf
  split <;> omega
theorem mul_ok (S : SOk o s m) (h1 : -(10 ^ 252) ≤ k) (h2 : k ≤ 10 ^ 252) : CMulW s k :=
  cmul (sm_ob (by have := S.s1; omega) (by have := S.s2; omega)) (sm_ob (by omega) (by omega))
theorem mul_fig (S : SOk o s m) (h1 : -(10 ^ 250) ≤ v) (h2 : v ≤ 10 ^ 250) : CMulW s (figf o s m v) := by
  have hb := fig_bd S h1 h2
  exact cmul (sm_ob (by have := S.s1; omega) (by have := S.s2; omega)) (sm_ob (by omega) (by omega))
theorem div_ok (S : SOk o s m) : CDivW v s := cdiv (by have := S.s1; omega) S.big
theorem thr_bd (S : SOk o s m) {N : Int} (hN : 0 ≤ N) (h1 : -N ≤ k) (h2 : k ≤ N) : -(10 ^ 30 * N + 10 ^ 41) ≤ thr o s m k ∧ thr o s m k ≤ 10 ^ 30 * N + 10 ^ 41 := by
  have h := thr_le (o := o) (m := m) (k := k) S.s1
  have mb := mul_bd (a := s) (b := k) (A := 10 ^ 30) (B := N) (by have := S.s1; omega) S.s2 h1 h2
  have := S.o1; have := S.o2; have := S.s2; have := S.s1
  omega
/-! ### what the program's sides compute -/
@[simp] theorem e_is_integer_int : m_is_integer [.int i] Q W = Q (.bl true) := by simp [m_is_integer, mFun]
@[simp] theorem e_is_integer_bl : m_is_integer [.bl b] Q W = Q (.bl false) := by simp [m_is_integer, mFun]
@[simp] theorem e_is_integer_non : m_is_integer [.non] Q W = Q (.bl false) := by simp [m_is_integer, mFun]
@[simp] theorem e_is_integer_str : m_is_integer [.str x] Q W = Q (.bl false) := by simp [m_is_integer, mFun]
@[simp] theorem e_is_integer_tup : m_is_integer [.tup xs] Q W = Q (.bl false) := by simp [m_is_integer, mFun]
@[simp] theorem e_is_integer_lst : m_is_integer [.lst xs] Q W = Q (.bl false) := by simp [m_is_integer, mFun]
@[simp] theorem e_is_integer_dct {kvs : List (Key × D)} : m_is_integer [.dct kvs] Q W = Q (.bl false) := by simp [m_is_integer, mFun]
/-- a datum that a law may hand over -/
def D.isInt : D → Bool
  | .int _ => true
  | _ => false
def D.known (d : D) : Bool := d.tyS.isSome
theorem e_is_integer {d : D} (h : d.known = true) : m_is_integer [d] Q W = Q (.bl d.isInt) := by
  cases d with
  | exc c fs => cases h
  | src => cases h
  | obj _ _ => cases h
  | _ => simp [D.isInt]
/-- what is a side -/
def isMode (m : Str) : Bool := decide (m = "down") || decide (m = "up") || decide (m = "half_down") || decide (m = "half_up") || decide (m = "half_even")
theorem isMode_iff : isMode m = true ↔ IsMd m := by
  unfold isMode IsMd
  rw [Bool.or_eq_true, Bool.or_eq_true, Bool.or_eq_true, Bool.or_eq_true, decide_eq_true_iff, decide_eq_true_iff, decide_eq_true_iff, decide_eq_true_iff, decide_eq_true_iff, or_assoc, or_assoc, or_assoc]
def isSideD : D → Bool
  | .tup [.int o, .int s, .str m] => decide (-(10 ^ 40) ≤ o) && decide (o ≤ 10 ^ 40) && decide (1 ≤ s) && decide (s ≤ 10 ^ 30) && isMode m
  | _ => false
theorem isSideD_iff {d : D} : isSideD d = true ↔ ∃ o s m, d = sideD o s m ∧ SOk o s m := by
  constructor
  · intro h
    unfold isSideD at h
    split at h
    · simp only [Bool.and_eq_true, decide_eq_true_eq, isMode_iff] at h
      exact ⟨_, _, _, rfl, h.1.1.1.1, h.1.1.1.2, h.1.1.2, h.1.2, h.2⟩
    · cases h
  · rintro ⟨o, s, m, rfl, S⟩
    have e : isSideD (sideD o s m) = (decide (-(10 ^ 40) ≤ o) && decide (o ≤ 10 ^ 40) && decide (1 ≤ s) && decide (s ≤ 10 ^ 30) && isMode m) := rfl
    rw [e, decide_eq_true S.o1, decide_eq_true S.o2, decide_eq_true S.s1, decide_eq_true S.s2, isMode_iff.mpr S.md]; rfl
theorem sok_is (S : SOk o s m) : isSideD (sideD o s m) = true := isSideD_iff.mpr ⟨o, s, m, rfl, S⟩
theorem inModes : (D.str m).isIn [D.str "down", D.str "up", D.str "half_down", D.str "half_up", D.str "half_even"] = isMode m := by
  unfold isMode D.isIn
  simp only [List.any_cons, List.any_nil, eqF_str_str, Bool.or_false]
  have e : ∀ a : Str, (a == m) = decide (m = a) := fun a => by rw [Bool.eq_iff_iff, beq_iff_eq, decide_eq_true_iff]; exact ⟨Eq.symm, Eq.symm⟩
  simp only [e, Bool.or_assoc]
/-- a datum whose parts isinstance may be asked of -/
def D.knownT : D → Bool
  | .tup xs => xs.all D.known
  | d => d.known
end
end Hm
set_option Elab.async false
set_option linter.all false
set_option maxRecDepth 100000
set_option maxHeartbeats 400000
namespace Hm
open PySem L2
/-! ### texts of figures: what the program's functions compute -/
section
variable {v i : Int} {m x : Str} {b : Bool} {xs : List D} {Q : DK} {W : XKD}
theorem c_digits_of {n : Nat} (hn : n < 10 ^ 100) (h : Q (.str (Sx (dP n)))) : m_digits_of [.int (n : Int)] Q W := by
  have hl := dL_len hn
  simp [m_digits_of, k_DIGITS]
  refine whileI (fun m ρ => ∃ (acc : List Nat) (k : Nat), ρ = [.dat (.int (k : Int)), .own (acc.map sg1)] ∧ m = k + (if acc = [] then 1 else 0) ∧ ((n ≠ 0 ∧ acc ++ dL k = dL n) ∨ (n = 0 ∧ k = 0 ∧ (acc = [] ∨ acc = [48])))) (n + 1) ⟨[], n, rfl, rfl, ?_⟩ ?_
  · by_cases c : n = 0
    · exact .inr ⟨c, c, .inl rfl⟩
    · exact .inl ⟨c, rfl⟩
  · rintro mm ρ kk ⟨acc, k, rfl, hm, inv⟩ hk
    have al : acc.length ≤ 100 := by
      rcases inv with ⟨_, e⟩ | ⟨_, _, e | e⟩
      · rw [← e, List.length_append] at hl; omega
      · rw [e]; simp
      · rw [e]; simp
    have e1 : ((k : Int) % 10) = ((k % 10 : Nat) : Int) := by omega
    have e2 : ((k : Int) / 10) = ((k / 10 : Nat) : Int) := by omega
    have go : (0 < k ∨ acc = []) → dIx (.str "0123456789") (.int ((k : Int) % 10)) fun d => (acc.map sg1).length < sizeLine ∧ kk [.dat (.int ((k : Int) / 10)), .own (acc.map sg1 ++ [d])] := by
      intro hc
      rw [e1, e2, dig_at (by omega)]
      refine ⟨by rw [List.length_map, sz_eq]; omega, hk (k / 10) _ ?_ ⟨acc ++ [48 + k % 10], k / 10, by simp, by simp, ?_⟩⟩
      · split at hm <;> rename_i c
        · omega
        · rcases hc with hc | hc
          · omega
          · exact absurd hc c
      · rcases inv with ⟨n0, e⟩ | ⟨n0, k0, e | e⟩
        · refine .inl ⟨n0, ?_⟩
          have k0 : k ≠ 0 := by
            intro z
            subst z
            rcases hc with hc | hc
            · omega
            · subst hc
              rw [dL_zero] at e
              rw [dL_pos n0] at e
              cases e
          rw [dL_pos k0] at e
          simpa using e
        · subst e; subst k0
          exact .inr ⟨n0, rfl, .inr rfl⟩
        · subst e; subst k0
          rcases hc with hc | hc
          · omega
          · cases hc
    by_cases c : 0 < k
    · simp [c]
      simpa using go (.inl c)
    · have k0 : k = 0 := by omega
      by_cases c2 : acc = []
      · subst c2; subst k0
        simp
        simpa using go (.inr rfl)
      · have : ¬ ((acc.length : Int) = 0) := by
          have := List.length_pos_iff.mpr c2
          omega
        simp [c, c2]
        have e3 : acc.reverse = dP n := by
          unfold dP
          rcases inv with ⟨n0, e⟩ | ⟨n0, _, e | e⟩
          · subst k0
            rw [dL_zero, List.append_nil] at e
            rw [if_neg n0, e]
          · exact absurd e c2
          · rw [if_pos n0, e]; rfl
        rw [← List.map_reverse, e3, join_e (by rw [← e3, List.length_reverse]; omega)]
        exact h
theorem c_grouped {l : List Nat} (hl : l ≠ []) (hz : l.length ≤ 1000) (h : Q (.str (Sx (grp l)))) : m_grouped [.str (Sx l)] Q W := by
  have hp := parts_len (l := l)
  have l0 : 0 < l.length := List.length_pos_iff.mpr hl
  have m := Nat.mod_add_div l.length 3
  obtain ⟨r, hr⟩ : ∃ r, l.length % 3 = r := ⟨_, rfl⟩
  have em : ((l.length : Int) % 3) = (r : Int) := by omega
  have fin : ∀ W : XKD, ∃ n, RgC (r : Int) (l.length : Int) 3 n ∧ mLcL (gNm 3) mYes (mSl (mVar 0) (mPart (mVar 3)) (mPart (mOp dAdd (mVar 3) (mC (.int 3))))) (wipeD [.dat (.str (Sx l)), .dat (.int (r : Int)), .dat (.lst ((if 0 < r then [l.take (r)] else []).map fun p => D.str (Sx p))), .un] [3]) (rngC (r : Int) 3 n) [] (fun xs => dAdd (.lst ((if 0 < r then [l.take (r)] else []).map fun p => D.str (Sx p))) (.lst xs) fun d => dJoin (.str ",") d Q) := by
    intro W
    refine ⟨_, rgC_pos (by decide) (by decide) (by omega) (by omega) (by omega) (by omega), ?_⟩
    have ek : (if (r : Int) < (l.length : Int) then ((l.length : Int) - (r : Int) - 1) / 3 + 1 else 0).toNat = l.length / 3 := by split <;> omega
    rw [ek]
    rw [lcMapEq (fun d => match d with | .int i => .str (Sx ((l.drop i.toNat).take 3)) | d => d) (fun x hx kt => ?_) (by rw [rngC_length]; simp; omega)]
    · have er : (rngC (r : Int) 3 (l.length / 3)).map (fun d => match d with | .int i => D.str (Sx ((l.drop i.toNat).take 3)) | d => d) = (ch3 (l.drop (r))).map fun p => D.str (Sx p) := by
        rw [ch3_rows (k := l.length / 3) (by rw [List.length_drop]; omega)]
        unfold rngC
        rw [List.map_map, List.map_map]
        refine List.map_congr_left fun i hi => ?_
        show D.str (Sx ((l.drop ((r : Int) + (i : Int) * 3).toNat).take 3)) = D.str (Sx (((l.drop (r)).drop (3 * i)).take 3))
        rw [List.drop_drop]
        congr 5
        omega
      rw [er]
      simp only [dAdd_ll, ← List.map_append]
      refine ⟨by have := hp.1; unfold parts3 at this; rw [hr] at this; simp at this ⊢; omega, ?_⟩
      have ep : (if 0 < r then [l.take r] else []) ++ ch3 (l.drop r) = parts3 l := by unfold parts3; rw [hr]
      rw [ep]
      rw [str_comma, join_parts (by simp; omega), parts_join hl]
      exact h
    · unfold rngC at hx
      obtain ⟨i, hi, rfl⟩ := List.mem_map.mp hx
      have hi := List.mem_range.mp hi
      have ei : (r : Int) + (i : Int) * 3 = ((r + i * 3 : Nat) : Int) := by omega
      rw [ei]
      have hK : r + i * 3 ≤ l.length := by omega
      generalize r + i * 3 = k at hK
      simp [wipeD, sx_len]
      rw [mid_sx (by omega) (by omega) (by omega), show ((k : Int) + 3 - k).toNat = 3 by omega, Int.toNat_natCast]
      exact ⟨fun z => z.2, fun z => ⟨by omega, z⟩⟩
  simp [m_grouped, sx_len, -mLcR3_eq]
  rw [em]
  refine ⟨by omega, ?_⟩
  by_cases c : 0 < r
  · have := fin W
    rw [if_pos c] at this
    simp [c, sx_len, -mLcR3_eq]
    rw [take_sx (by omega), Int.toNat_natCast]
    refine ⟨by omega, ?_⟩
    simpa [sx_len, show l.length ≤ 16777216 by omega] using this
  · have := fin W
    rw [if_neg c] at this
    simp [c, sx_len, -mLcR3_eq]
    simpa [sx_len, show l.length ≤ 16777216 by omega] using this
theorem seqI {A B : MS} {ρ : Rho} {E : DEnds} (ρ1 : Rho) (h : ∀ k : Rho → Prop, k ρ1 → A ρ { E with nx := k }) (hb : B ρ1 E) : mSeq A B ρ E := h _ hb
theorem seqP {A B : MS} {ρ : Rho} {E : DEnds} (P : Rho → Prop) (h : ∀ k : Rho → Prop, (∀ ρ1, P ρ1 → k ρ1) → A ρ { E with nx := k }) (hb : ∀ ρ1, P ρ1 → B ρ1 E) : mSeq A B ρ E := h _ hb
theorem seqF {A B : MS} {ρ : Rho} {E : DEnds} (h : ∀ k : Rho → Prop, A ρ { E with nx := k }) : mSeq A B ρ E := h _
theorem tail_end {row : List Nat} {w : Nat} (hl : row.length ≤ 500) (hw : w ≤ 200) : (dLen [.str (Sx row)] fun y => dSub (.int (w : Int)) y fun y => dMulS (.str " ") y fun x => dAdd x (.str (Sx row)) Q) = Q (.str (Sx (List.replicate (w - row.length) 32 ++ row))) := by
  have en : ((w : Int) - (row.length : Int)).toNat = w - row.length := by omega
  have cm : CMulS (Sx [32]) ((w : Int) - (row.length : Int)) := by
    refine ⟨by omega, by omega, ?_⟩
    rw [sx_len, en]; simp; omega
  simp [sx_len, str_blank, cm, mul_sx, en, sx_app, show row.length ≤ 16777216 by omega]
  intro; omega
theorem c_text_of {f : Int} {pl w : Nat} {sg gr : Bool} (hf : f.natAbs < 10 ^ 100) (hp : pl ≤ 60) (hw : w ≤ 200) (h : Q (.str (Sx (txL f pl sg gr w)))) : m_text_of [.int f, .int (pl : Int), .bl sg, .bl gr, .int (w : Int)] Q W := by
  have ea : (if f < 0 then -f else f) = (f.natAbs : Int) := by split <;> omega
  have dl := dL_len hf
  have pdl := padD_len (n := f.natAbs) (pl := pl)
  have rl := rowS_len (sg := sg) (gr := gr) hf (show pl ≤ 100 by omega)
  have dpl : (dP f.natAbs).length ≤ 101 := by
    unfold dP
    split
    · simp
    · rw [List.length_reverse]; omega
  unfold m_text_of
  simp only [mFun_eq]
  refine ⟨rfl, ?_⟩
  refine seqI [.dat (.int f), .dat (.int (pl : Int)), .dat (.bl sg), .dat (.bl gr), .dat (.int (w : Int)), .un, .un, .un] (fun k hk => by simp; exact hk) ?_
  refine seqI _ (fun k hk => by simp [m_is_places, k_MOST_PLACES, show ((pl : Int) ≤ 60) by omega]; exact hk) ?_
  refine seqI _ (fun k hk => by simp; exact hk) ?_
  refine seqI _ (fun k hk => by simp [k_MOST_WIDTH, show ((w : Int) ≤ 200) by omega]; exact hk) ?_
  refine seqI [.dat (.int f), .dat (.int (pl : Int)), .dat (.bl sg), .dat (.bl gr), .dat (.int (w : Int)), .dat (.str (Sx (dP f.natAbs))), .un, .un] (fun k hk => by
    simp
    rw [ea]
    exact c_digits_of hf hk) ?_
  refine seqI [.dat (.int f), .dat (.int (pl : Int)), .dat (.bl sg), .dat (.bl gr), .dat (.int (w : Int)), .dat (.str (Sx (padD f.natAbs pl))), .un, .un] (fun k hk => by
    rw [← padD_prog] at hk
    have en : ((pl : Int) + 1 - ((dP f.natAbs).length : Int)).toNat = pl + 1 - (dP f.natAbs).length := by omega
    have cm : CMulS (Sx [48]) ((pl : Int) + 1 - ((dP f.natAbs).length : Int)) := by
      refine ⟨by omega, by omega, ?_⟩
      rw [sx_len, en]; simp; omega
    by_cases c : (dP f.natAbs).length ≤ pl
    · rw [if_pos c] at hk
      simp [sx_len, c, str_nought, cm, mul_sx, en, sx_app, show (dP f.natAbs).length ≤ 16777216 by omega]
      exact ⟨by omega, hk⟩
    · rw [if_neg c] at hk
      simp [sx_len, c, show (dP f.natAbs).length ≤ 16777216 by omega]
      exact hk) ?_
  have pn : padD f.natAbs pl ≠ [] := by
    intro z
    rw [z] at pdl
    simp at pdl
    omega
  have pz : (padD f.natAbs pl).length ≤ 101 := by omega
  have pg : pl < (padD f.natAbs pl).length := by omega
  unfold rowS rowP rowF at rl
  unfold txL rowS rowP rowF at h
  generalize hP : padD f.natAbs pl = P at *
  generalize hF : (P.take (P.length - pl)) = F at *
  have fz : F.length ≤ 101 := by rw [← hF, List.length_take]; omega
  have fn : F ≠ [] := by
    intro z
    rw [z] at hF
    have := congrArg List.length hF
    rw [List.length_take] at this
    simp at this
    omega
  refine seqI [.dat (.int f), .dat (.int (pl : Int)), .dat (.bl sg), .dat (.bl gr), .dat (.int (w : Int)), .dat (.str (Sx P)), .dat (.str (Sx F)), .un] (fun k hk => by
    have en : ((P.length : Int) - (pl : Int)).toNat = P.length - pl := by omega
    simp [sx_len, show P.length ≤ 16777216 by omega]
    rw [take_sx (by omega), en, hF]
    exact hk) ?_
  refine seqI [.dat (.int f), .dat (.int (pl : Int)), .dat (.bl sg), .dat (.bl gr), .dat (.int (w : Int)), .dat (.str (Sx P)), .dat (.str (Sx F)), .dat (.str (Sx (if gr = true then grp F else F)))] (fun k hk => by
    cases gr with
    | true =>
      simp
      refine c_grouped fn (by omega) ?_
      simpa using hk
    | false =>
      simp
      simpa using hk) ?_
  have rz : (if gr = true then grp F else F).length ≤ 202 := by
    split
    · exact Nat.le_trans grp_len (by omega)
    · omega
  generalize hR : (if gr = true then grp F else F) = R at *
  refine seqI [.dat (.int f), .dat (.int (pl : Int)), .dat (.bl sg), .dat (.bl gr), .dat (.int (w : Int)), .dat (.str (Sx P)), .dat (.str (Sx F)), .dat (.str (Sx (if 0 < pl then R ++ [46] ++ P.drop (P.length - pl) else R)))] (fun k hk => by
    have en : ((P.length : Int) - (pl : Int)).toNat = P.length - pl := by omega
    by_cases c : 0 < pl
    · rw [if_pos c] at hk
      simp [sx_len, c, show P.length ≤ 16777216 by omega, str_dot, sx_app]
      rw [drop_sx (by omega) (by omega), en]
      simp [sx_len, sx_app]
      refine ⟨by omega, by omega, ?_⟩
      simpa using hk
    · rw [if_neg c] at hk
      simp [c]
      exact hk) ?_
  have tz : (if 0 < pl then R ++ [46] ++ P.drop (P.length - pl) else R).length ≤ 400 := by
    split
    · simp; omega
    · omega
  generalize hT : (if 0 < pl then R ++ [46] ++ P.drop (P.length - pl) else R) = U at *
  refine seqI [.dat (.int f), .dat (.int (pl : Int)), .dat (.bl sg), .dat (.bl gr), .dat (.int (w : Int)), .dat (.str (Sx P)), .dat (.str (Sx F)), .dat (.str (Sx (if f < 0 then 45 :: U else if sg = true ∧ 0 < f then 43 :: U else U)))] (fun k hk => by
    by_cases c : f < 0
    · rw [if_pos c] at hk
      simp [c, str_minus, sx_app, sx_len]
      exact ⟨by omega, hk⟩
    · rw [if_neg c] at hk
      by_cases c2 : 0 < f
      · cases sg with
        | true =>
          simp [c, c2, str_plus, sx_app, sx_len] at hk ⊢
          exact ⟨by omega, hk⟩
        | false =>
          simp [c, c2] at hk ⊢
          exact hk
      · cases sg <;> (simp [c, c2] at hk ⊢; exact hk)) ?_
  simp only [mRet_eq]
  have te := (tail_end (Q := Q) rl hw).mpr h
  simpa using te
end
end Hm
set_option Elab.async false
set_option linter.all false
set_option maxRecDepth 100000
set_option maxHeartbeats 400000
namespace Hm
open PySem L2
/-! ### what is written is read -/
def allD (l : List Nat) : Prop := ∀ c ∈ l, isDg c = true
theorem runD_app {t x : List Nat} (ht : allD t) (hx : runD x = []) : runD (t ++ x) = t := by
  induction t with
  | nil => exact hx
  | cons a r ih =>
    have ha := ht a (List.mem_cons_self ..)
    have := ih fun c hc => ht c (List.mem_cons_of_mem _ hc)
    unfold runD at this ⊢
    rw [List.cons_append, List.takeWhile_cons, ha, if_pos rfl, this]
theorem runD_pt {x : List Nat} (h : x = [] ∨ x.head? = some 46) : runD x = [] := by
  rcases h with rfl | h
  · rfl
  · cases x with
    | nil => cases h
    | cons a r => cases h; rfl
theorem runD_cm {x : List Nat} (h : x.head? = some 44) : runD x = [] := by
  cases x with
  | nil => cases h
  | cons a r => cases h; rfl
theorem gG_three {a b c : Nat} {r : List Nat} (h : r.length % 3 = 0) : gG (a :: b :: c :: r) = 44 :: a :: b :: c :: gG r := by
  have e1 : (r.length + 1 + 1 + 1) % 3 = 0 := by omega
  have e2 : ¬ (r.length + 1 + 1) % 3 = 0 := by omega
  have e3 : ¬ (r.length + 1) % 3 = 0 := by omega
  show (if (r.length + 1 + 1 + 1) % 3 = 0 then [44] else []) ++ a :: ((if (r.length + 1 + 1) % 3 = 0 then [44] else []) ++ b :: ((if (r.length + 1) % 3 = 0 then [44] else []) ++ c :: gG r)) = _
  rw [if_pos e1, if_neg e2, if_neg e3]
  rfl
theorem grp_read : ∀ {n : Nat} {l x : List Nat} {k : Nat}, l.length = 3 * n → allD l → (x = [] ∨ x.head? = some 46) → n ≤ k → grpF k (gG l ++ x) = .inl (l, (gG l).length)
  | 0, l, x, k, hl, hd, hx, hk => by
    have : l = [] := List.length_eq_zero_iff.mp (by omega)
    subst this
    show grpF k x = .inl ([], 0)
    cases k with
    | zero => rfl
    | succ k =>
      unfold grpF
      rw [if_neg]
      rcases hx with rfl | hx
      · exact fun z => nomatch z
      · rw [hx]; exact fun z => by cases z
  | n + 1, l, x, k, hl, hd, hx, hk => by
    match l, hl with
    | a :: b :: c :: r, hl =>
      simp only [List.length_cons] at hl
      obtain ⟨k, rfl⟩ : ∃ k', k = k' + 1 := ⟨k - 1, by omega⟩
      have da := hd a (by simp)
      have db := hd b (by simp)
      have dc := hd c (by simp)
      have dr : allD r := fun d hd' => hd d (by simp [hd'])
      rw [gG_three (by omega)]
      have ih := grp_read (n := n) (l := r) (x := x) (k := k) (by omega) dr hx (by omega)
      unfold grpF
      have e3 : runM ((44 :: a :: b :: c :: gG r ++ x).drop 1) (some 3) = [a, b, c] := by
        show runM (a :: b :: c :: (gG r ++ x)) (some 3) = _
        rw [runM_yes' da, runM_yes' db, runM_yes' dc, runM_zero]
      have e4 : (44 :: a :: b :: c :: gG r ++ x).drop 4 = gG r ++ x := rfl
      rw [if_pos (by rfl), e3, if_neg (by simp), e4, ih]
      show Sum.inl ([a, b, c] ++ r, (gG r).length + 4) = _
      simp
/-- the digits ahead of the point, grouped or not -/
theorem front_grp {t x : List Nat} (h0 : t ≠ []) (ht : allD t) (h1 : t.head? = some 48 → t = [48]) (hx : x = [] ∨ x.head? = some 46) : frontF (grp t ++ x) = .inl (t, (grp t).length) := by
  obtain ⟨p, r, rfl, hp, hr⟩ : ∃ p r, t = p ++ r ∧ (p.length = 1 ∨ p.length = 2 ∨ p.length = 3) ∧ r.length % 3 = 0 := by
    have l0 : 0 < t.length := List.length_pos_iff.mpr h0
    refine ⟨t.take ((t.length - 1) % 3 + 1), t.drop ((t.length - 1) % 3 + 1), (List.take_append_drop _ _).symm, ?_, ?_⟩
    · rw [List.length_take]; omega
    · rw [List.length_drop]; omega
  have dp : allD p := fun c hc => ht c (List.mem_append_left _ hc)
  have dr : allD r := fun c hc => ht c (List.mem_append_right _ hc)
  have eg : grp (p ++ r) = p ++ gG r := by
    match p, hp with
    | [a], _ => rfl
    | [a, b], _ =>
      show a :: ((if (r.length + 1) % 3 = 0 then [44] else []) ++ b :: gG r) = _
      rw [if_neg (by omega)]
      rfl
    | [a, b, c], _ =>
      show a :: ((if (r.length + 1 + 1) % 3 = 0 then [44] else []) ++ b :: ((if (r.length + 1) % 3 = 0 then [44] else []) ++ c :: gG r)) = _
      rw [if_neg (by omega), if_neg (by omega)]
      rfl
  rw [eg]
  by_cases h48 : (p ++ r).head? = some 48
  · have e := h1 h48
    have : p = [48] ∧ r = [] := by
      match p, hp with
      | [a], _ => simp at e; exact ⟨by rw [e.1], e.2⟩
      | [a, b], _ => simp at e
      | [a, b, c], _ => simp at e
    obtain ⟨rfl, rfl⟩ := this
    unfold frontF
    rw [if_pos (by rfl)]
    rfl
  · have hh : ¬ (p ++ gG r ++ x).head? = some 48 := by
      match p, hp with
      | [a], _ => exact h48
      | [a, b], _ => exact h48
      | [a, b, c], _ => exact h48
    have hx' : runD (gG r ++ x) = [] := by
      cases r with
      | nil => exact runD_pt hx
      | cons a r' =>
        refine runD_cm ?_
        show ((if (r'.length + 1) % 3 = 0 then [44] else []) ++ a :: gG r' ++ x).head? = _
        rw [if_pos (by simpa using hr)]
        rfl
    have hrun : runD (p ++ gG r ++ x) = p := by rw [List.append_assoc]; exact runD_app dp hx'
    unfold frontF
    rw [if_neg hh, hrun, if_neg (by omega), if_pos (by omega)]
    have ed : (p ++ gG r ++ x).drop p.length = gG r ++ x := by rw [List.append_assoc, List.drop_left]
    have lg : ∀ n (l : List Nat), l.length = 3 * n → n ≤ (gG l).length := by
      intro n
      induction n with
      | zero => intro l _; exact Nat.zero_le _
      | succ n ih =>
        intro l hl
        match l, hl with
        | a :: b :: c :: l, hl =>
          simp only [List.length_cons] at hl
          rw [gG_three (by omega)]
          have := ih l (by omega)
          simp
          omega
    rw [ed, grp_read (n := r.length / 3) (by omega) dr hx (by have := lg (r.length / 3) r (by omega); rw [List.length_append, List.length_append]; omega)]
    show Sum.inl (p ++ r, p.length + (gG r).length) = _
    rw [List.length_append]
theorem front_plain {t x : List Nat} (h0 : t ≠ []) (ht : allD t) (h1 : t.head? = some 48 → t = [48]) (hx : x = [] ∨ x.head? = some 46) : frontF (t ++ x) = .inl (t, t.length) := by
  have hrun := runD_app ht (runD_pt hx)
  have l0 : 0 < t.length := List.length_pos_iff.mpr h0
  have hh : (t ++ x).head? = t.head? := by
    cases t with
    | nil => exact absurd rfl h0
    | cons a r => rfl
  unfold frontF
  rw [hh]
  by_cases h48 : t.head? = some 48
  · rw [if_pos h48, h1 h48]; rfl
  · rw [if_neg h48, hrun, if_neg (by omega)]
    by_cases h3 : t.length ≤ 3
    · rw [if_pos h3, List.drop_left]
      have := grp_read (n := 0) (l := []) (x := x) (k := (t ++ x).length) rfl (fun c hc => nomatch hc) hx (Nat.zero_le _)
      have e : gG [] ++ x = x := rfl
      rw [e] at this
      rw [this]
      show Sum.inl (t ++ [], t.length + 0) = _
      rw [List.append_nil]; rfl
    · rw [if_neg h3]
/-- a whole text -/
theorem readP_mk {k : Nat} {s F T X R : List Nat} (hs : s = [] ∨ s = [45] ∨ s = [43]) (hF : frontF (F ++ X) = .inl (T, F.length)) (h0 : ∃ c, F.head? = some c ∧ isDg c = true) (hX : (X = [] ∧ R = []) ∨ (X = 46 :: R ∧ R ≠ [] ∧ R.length ≤ 60 ∧ allD R)) :
    readP (List.replicate k 32 ++ (s ++ (F ++ X))) = .inl (decide (s = [45]), T, R) := by
  obtain ⟨c, hc, hcd⟩ := h0
  have hc' := isDg_iff.mp hcd
  have hFX : (F ++ X).head? = some c := by
    cases F with
    | nil => cases hc
    | cons a r => exact hc
  have hb : blanks (List.replicate k 32 ++ (s ++ (F ++ X))) = k := by
    have hne : ∀ y : List Nat, y.head? ≠ some 32 → blanks (List.replicate k 32 ++ y) = k := by
      intro y hy
      unfold blanks
      rw [List.takeWhile_append_of_pos (by intro a ha; rw [(List.mem_replicate.mp ha).2]; rfl)]
      have : y.takeWhile (fun c => decide (c = 32)) = [] := by
        cases y with
        | nil => rfl
        | cons a r =>
          have : a ≠ 32 := fun z => hy (by rw [z]; rfl)
          simp [List.takeWhile, this]
      rw [this, List.append_nil, List.length_replicate]
    refine hne _ ?_
    rcases hs with rfl | rfl | rfl
    · rw [List.nil_append, hFX]; intro z; cases z; omega
    · simp
    · simp
  have dk : ∀ y : List Nat, (List.replicate k 32 ++ y).drop k = y := fun y => by
    have := List.drop_left (l₁ := List.replicate k 32) (l₂ := y)
    rwa [List.length_replicate] at this
  have hsg : signAt (List.replicate k 32 ++ (s ++ (F ++ X))) = k + s.length := by
    unfold signAt
    rw [hb, dk]
    rcases hs with rfl | rfl | rfl
    · rw [List.nil_append, hFX, if_neg (by intro z; cases z; omega), if_neg (by intro z; cases z; omega)]; rfl
    · rw [if_pos (by rfl)]; rfl
    · rw [if_neg (by simp), if_pos (by rfl)]; rfl
  have ds : (List.replicate k 32 ++ (s ++ (F ++ X))).drop (k + s.length) = F ++ X := by
    rw [← List.drop_drop, dk, List.drop_left]
  have dm : (List.replicate k 32 ++ (s ++ (F ++ X))).drop (k + s.length + F.length) = X := by
    rw [← List.drop_drop, ds, List.drop_left]
  have tl : (List.replicate k 32 ++ (s ++ (F ++ X))).length = k + s.length + F.length + X.length := by
    rw [List.length_append, List.length_append, List.length_append, List.length_replicate]; omega
  have hneg : decide (((List.replicate k 32 ++ (s ++ (F ++ X))).drop k).head? = some 45) = decide (s = [45]) := by
    rw [dk]
    rcases hs with rfl | rfl | rfl
    · rw [List.nil_append, hFX]
      rw [decide_eq_false (by intro z; cases z; omega), decide_eq_false (by simp)]
    · rfl
    · rfl
  unfold readP
  rw [hsg, ds, hF]
  dsimp only
  unfold endP
  rw [dm]
  rcases hX with ⟨rfl, rfl⟩ | ⟨rfl, hR, hR60, dR⟩
  · rw [if_neg (fun z => nomatch z)]
    dsimp only
    rw [tl, if_neg (by simp), hb, hneg]
  · rw [if_pos (by rfl)]
    have d1 : (List.replicate k 32 ++ (s ++ (F ++ 46 :: R))).drop (k + s.length + F.length + 1) = R := by
      rw [← List.drop_drop, dm]; rfl
    have er : runM R (some 60) = R := by
      have := runD_app (x := []) dR rfl
      rw [List.append_nil] at this
      show (runD R).take 60 = R
      rw [this, List.take_of_length_le hR60]
    have rl : 0 < R.length := List.length_pos_iff.mpr hR
    rw [d1, er, if_neg (by omega)]
    dsimp only
    rw [tl, List.length_cons, if_neg (by omega), hb, hneg]
end Hm
set_option Elab.async false
set_option linter.all false
set_option maxRecDepth 100000
set_option maxHeartbeats 400000
namespace Hm
open PySem L2
theorem allD_app {a b : List Nat} (ha : allD a) (hb : allD b) : allD (a ++ b) := fun c hc => by
  rcases List.mem_append.mp hc with h | h
  · exact ha c h
  · exact hb c h
theorem dL_dig : ∀ n : Nat, allD (dL n) := by
  intro n
  induction n using Nat.strongRecOn with
  | ind n ih =>
    by_cases c : n = 0
    · rw [c, dL_zero]; intro c hc; cases hc
    · rw [dL_pos c]
      intro d hd
      rcases List.mem_cons.mp hd with rfl | hd
      · exact isDg_iff.mpr (by omega)
      · exact ih (n / 10) (by omega) d hd
theorem rep_dig {k : Nat} : allD (List.replicate k 48) := fun c hc => by rw [(List.mem_replicate.mp hc).2]; rfl
theorem rev_dig {l : List Nat} (h : allD l) : allD l.reverse := fun c hc => h c (List.mem_reverse.mp hc)
theorem pad_dig {n pl : Nat} : allD (padD n pl) := allD_app rep_dig (rev_dig (dL_dig n))
theorem valL_rep {k : Nat} : valL (List.replicate k 48) = 0 := by
  induction k with
  | zero => rfl
  | succ k ih => rw [List.replicate_succ', valL_snoc, ih]; rfl
theorem valL_app0 {k : Nat} {l : List Nat} : valL (List.replicate k 48 ++ l) = valL l := by
  refine snoc_ind (P := fun l => valL (List.replicate k 48 ++ l) = valL l) (by rw [List.append_nil, valL_rep]; rfl) (fun l a ih => ?_) l
  rw [← List.append_assoc, valL_snoc, valL_snoc, ih]
theorem valL_dL : ∀ n : Nat, valL (dL n).reverse = n := by
  intro n
  induction n using Nat.strongRecOn with
  | ind n ih =>
    by_cases c : n = 0
    · rw [c, dL_zero]; rfl
    · rw [dL_pos c, List.reverse_cons, valL_snoc, ih (n / 10) (by omega)]
      omega
theorem valL_pad {n pl : Nat} : valL (padD n pl) = n := by
  unfold padD
  rw [valL_app0, valL_dL]
/-- the first digit is no nought -/
theorem dL_last : ∀ {n : Nat}, n ≠ 0 → (dL n).reverse.head? ≠ some 48 := by
  intro n
  induction n using Nat.strongRecOn with
  | ind n ih =>
    intro c
    rw [dL_pos c, List.reverse_cons]
    by_cases c2 : n / 10 = 0
    · rw [c2, dL_zero]
      show some (48 + n % 10) ≠ some 48
      intro z
      have := Option.some.inj z
      omega
    · have h := ih (n / 10) (by omega) c2
      have hne : (dL (n / 10)).reverse ≠ [] := by
        rw [dL_pos c2]
        simp
      cases e : (dL (n / 10)).reverse with
      | nil => exact absurd e hne
      | cons a r => rw [e] at h; exact h
def padT (n pl : Nat) : List Nat := (padD n pl).take ((padD n pl).length - pl)
def padR (n pl : Nat) : List Nat := (padD n pl).drop ((padD n pl).length - pl)
theorem padTR {n pl : Nat} : padT n pl ++ padR n pl = padD n pl := List.take_append_drop _ _
theorem padR_len {n pl : Nat} : (padR n pl).length = pl := by
  unfold padR
  rw [List.length_drop, padD_len]
  omega
theorem padT_len {n pl : Nat} : (padT n pl).length = max (pl + 1) (dL n).length - pl := by
  unfold padT
  rw [List.length_take, padD_len]
  omega
theorem padT_ne {n pl : Nat} : padT n pl ≠ [] := fun z => by
  have := congrArg List.length z
  rw [padT_len] at this
  simp at this
  omega
theorem padT_dig {n pl : Nat} : allD (padT n pl) := fun c hc => pad_dig c (List.mem_of_mem_take hc)
theorem padR_dig {n pl : Nat} : allD (padR n pl) := fun c hc => pad_dig c (List.mem_of_mem_drop hc)
theorem padT_48 {n pl : Nat} (h : (padT n pl).head? = some 48) : padT n pl = [48] := by
  by_cases c : (dL n).length ≤ pl
  · have l1 : (padT n pl).length = 1 := by rw [padT_len]; omega
    match e : padT n pl, l1 with
    | [a], _ => rw [e] at h; cases h; rfl
  · exfalso
    have hn : n ≠ 0 := by
      rintro rfl
      rw [dL_zero] at c
      exact c (Nat.zero_le _)
    have e : padD n pl = (dL n).reverse := by
      unfold padD
      rw [show pl + 1 - (dL n).length = 0 by omega]
      rfl
    have := dL_last hn
    unfold padT at h
    rw [e] at h
    cases e2 : (dL n).reverse with
    | nil => 
      have := congrArg List.length e2
      rw [List.length_reverse] at this
      simp at this
      rw [this] at c
      simp at c
    | cons a r =>
      rw [e2] at h this
      have : (a :: r).length - pl = ((a :: r).length - pl - 1) + 1 := by
        have := congrArg List.length e2
        rw [List.length_reverse] at this
        omega
      rw [this, List.take_succ_cons] at h
      exact absurd h (by assumption)
theorem row_parts {n pl : Nat} {gr : Bool} : rowP n pl gr = (if gr = true then grp (padT n pl) else padT n pl) ++ (if 0 < pl then 46 :: padR n pl else []) := by
  unfold rowP rowF
  by_cases c : 0 < pl
  · rw [if_pos c, if_pos c, List.append_assoc]
    rfl
  · rw [if_neg c, if_neg c, List.append_nil]
    rfl
def sgnL (f : Int) (sg : Bool) : List Nat := if f < 0 then [45] else if sg = true ∧ 0 < f then [43] else []
theorem rowS_parts {f : Int} {pl : Nat} {sg gr : Bool} : rowS f pl sg gr = sgnL f sg ++ rowP f.natAbs pl gr := by
  unfold rowS sgnL
  split
  · rfl
  · split <;> rfl
theorem readP_row {n pl k : Nat} {s : List Nat} {gr : Bool} (hs : s = [] ∨ s = [45] ∨ s = [43]) (hp : pl ≤ 60) : readP (List.replicate k 32 ++ (s ++ rowP n pl gr)) = .inl (decide (s = [45]), padT n pl, padR n pl) := by
  have hX : (if 0 < pl then 46 :: padR n pl else []) = [] ∨ (if 0 < pl then 46 :: padR n pl else []).head? = some 46 := by
    by_cases c : 0 < pl
    · rw [if_pos c]; exact .inr rfl
    · rw [if_neg c]; exact .inl rfl
  have hF0 : ∀ t : List Nat, t ≠ [] → allD t → ∃ c, t.head? = some c ∧ isDg c = true := fun t h1 h2 => by
    cases t with
    | nil => exact absurd rfl h1
    | cons a r => exact ⟨a, rfl, h2 a (List.mem_cons_self ..)⟩
  rw [row_parts]
  refine readP_mk hs ?_ ?_ ?_
  · cases gr with
    | true => exact front_grp padT_ne padT_dig padT_48 hX
    | false => exact front_plain padT_ne padT_dig padT_48 hX
  · cases gr with
    | true =>
      obtain ⟨c, h1, h2⟩ := hF0 _ (padT_ne (n := n) (pl := pl)) padT_dig
      refine ⟨c, ?_, h2⟩
      rw [if_pos rfl]
      cases e : padT n pl with
      | nil => rw [e] at h1; cases h1
      | cons a r => rw [e] at h1; exact h1
    | false => exact hF0 _ (padT_ne (n := n) (pl := pl)) padT_dig
  · by_cases c : 0 < pl
    · rw [if_pos c]
      refine .inr ⟨rfl, fun z => ?_, by rw [padR_len]; exact hp, padR_dig⟩
      have := congrArg List.length z
      rw [padR_len] at this
      simp at this
      omega
    · rw [if_neg c]
      refine .inl ⟨rfl, ?_⟩
      exact List.length_eq_zero_iff.mp (by rw [padR_len]; omega)
section
variable {Q : DK} {W : XKD}
theorem sgnL_ok {f : Int} {sg : Bool} : sgnL f sg = [] ∨ sgnL f sg = [45] ∨ sgnL f sg = [43] := by
  unfold sgnL
  split
  · exact .inr (.inl rfl)
  · split
    · exact .inr (.inr rfl)
    · exact .inl rfl
theorem pad_len_le {n pl : Nat} (hn : n < 10 ^ 100) (hp : pl ≤ 60) : (padD n pl).length ≤ 100 := by
  rw [padD_len]
  have := dL_len hn
  omega
theorem read_s {n pl k : Nat} {s : List Nat} {gr : Bool} (hs : s = [] ∨ s = [45] ∨ s = [43]) (hn : n < 10 ^ 100) (hp : pl ≤ 60) (hl : (List.replicate k 32 ++ (s ++ rowP n pl gr)).length ≤ rdMost)
    (h : Q (.tup [.int (if s = [45] then -(n : Int) else (n : Int)), .int (pl : Int)])) : m_read_text [.str (Sx (List.replicate k 32 ++ (s ++ rowP n pl gr)))] Q W := by
  refine c_read_text hl ?_
  rw [readP_row hs hp]
  dsimp only
  rw [padTR, valL_pad, padR_len]
  refine ⟨pad_dig, by have := pad_len_le hn hp; unfold rdMost; omega, ?_⟩
  by_cases c : s = [45]
  · rw [if_pos (decide_eq_true c)]
    rw [if_pos c] at h
    exact h
  · rw [if_neg (by simpa using c)]
    rw [if_neg c] at h
    exact h
theorem c_read_row {f : Int} {pl k : Nat} {sg gr : Bool} (hf : f.natAbs < 10 ^ 100) (hp : pl ≤ 60) (hk : k ≤ 1000) (h : Q (.tup [.int f, .int (pl : Int)])) : m_read_text [.str (Sx (List.replicate k 32 ++ rowS f pl sg gr))] Q W := by
  have hlen := rowS_len (sg := sg) (gr := gr) hf (by omega : pl ≤ 100)
  have e : (if sgnL f sg = [45] then -((f.natAbs : Nat) : Int) else ((f.natAbs : Nat) : Int)) = f := by
    unfold sgnL
    by_cases c : f < 0
    · rw [if_pos c, if_pos rfl]; omega
    · rw [if_neg c]
      by_cases c2 : sg = true ∧ 0 < f
      · rw [if_pos c2, if_neg (by decide)]; omega
      · rw [if_neg c2, if_neg (by decide)]; omega
  rw [rowS_parts] at hlen ⊢
  refine read_s sgnL_ok hf hp ?_ ?_
  · rw [List.length_append, List.length_replicate]; unfold rdMost; omega
  · rw [e]; exact h
/-- texts alike, figures alike -/
theorem row_inj {f g : Int} {pl : Nat} (hp : pl ≤ 60) (h : rowS f pl false false = rowS g pl false false) : f = g := by
  have key : ∀ f : Int, readP (rowS f pl false false) = .inl (decide (f < 0), padT f.natAbs pl, padR f.natAbs pl) := fun f => by
    have := readP_row (k := 0) (gr := false) (n := f.natAbs) (pl := pl) (sgnL_ok (f := f) (sg := false)) hp
    rw [rowS_parts]
    rw [List.replicate_zero, List.nil_append] at this
    rw [this]
    congr 2
    unfold sgnL
    by_cases c : f < 0
    · rw [if_pos c, decide_eq_true c, decide_eq_true rfl]
    · rw [if_neg c, if_neg (fun z => nomatch z.1), decide_eq_false c]; rfl
  have e := (key f).symm.trans ((congrArg readP h).trans (key g))
  have e := Sum.inl.inj e
  have e1 := congrArg Prod.fst e
  have e2 := congrArg Prod.snd e
  have e3 := congrArg Prod.fst e2
  have e4 := congrArg Prod.snd e2
  dsimp only at e1 e3 e4
  have e5 : padD f.natAbs pl = padD g.natAbs pl := by rw [← padTR, ← padTR, e3, e4]
  have e6 : ((f.natAbs : Nat) : Int) = ((g.natAbs : Nat) : Int) := by rw [← valL_pad (n := f.natAbs) (pl := pl), e5, valL_pad]
  have e7 : (f < 0) ↔ (g < 0) := decide_eq_decide.mp e1
  by_cases c : f < 0
  · have := e7.mp c; omega
  · have : ¬ g < 0 := fun z => c (e7.mpr z); omega
end
end Hm
set_option Elab.async false
set_option linter.all false
set_option maxRecDepth 100000
set_option maxHeartbeats 400000
namespace Hm
open PySem L2
section
variable {Q : DK} {W : XKD} {xs : List D}
theorem c_pick (hx : xs ≠ []) (hl : xs.length ≤ 1000) (h : ∀ d ∈ xs, Q d) : m_law_pick [.src, .lst xs] Q W := by
  have hp : 0 < xs.length := List.length_pos_iff.mpr hx
  simp [m_law_pick]
  exact ⟨by omega, fun r h0 h1 => ix_at h0 h1 h⟩
theorem c_great {n : Int} (N : Nat) (h0 : 0 ≤ n) (hn : n ≤ N) (hN : N ≤ 60) (h : ∀ r, 0 ≤ r → r < 10 ^ N → Q (.int r)) : m_law_great [.src, .int n] Q W := by
  simp [m_law_great]
  refine ⟨by omega, ?_⟩
  refine forR (fun i ρ => ∃ (x : Sl) (r : Int), ρ = [.dat .src, .dat (.int n), .dat (.int r), x] ∧ 0 ≤ r ∧ r < 10 ^ i) ⟨_, 0, rfl, by omega, by omega⟩ ?_ ?_
  · rintro ρ ⟨x, r, rfl, h0, h1⟩
    simp
    refine h r h0 (Int.lt_of_lt_of_le h1 ?_)
    have : (10 : Nat) ^ n.toNat ≤ 10 ^ N := Nat.pow_le_pow_right (by decide) (by omega)
    exact_mod_cast this
  · rintro i ρ k hi ⟨x, r, rfl, h0, h1⟩ hk
    have hp : (10 : Int) ^ i ≤ 10 ^ 60 := by
      have : (10 : Nat) ^ i ≤ 10 ^ 60 := Nat.pow_le_pow_right (by decide) (by omega)
      exact_mod_cast this
    simp
    refine ⟨cmul (sm_of (by omega) (by omega)) (sm_lit (by decide)), fun d d0 d1 => hk _ ⟨_, _, rfl, by omega, ?_⟩⟩
    rw [Int.pow_succ]
    omega
/-- a text of f -/
def TxF (f : Int) (pl : Nat) (d : D) : Prop := ∃ (sg gr : Bool) (w : Nat), w ≤ 200 ∧ d = .str (Sx (txL f pl sg gr w))
theorem c_styles {f : Int} {pl : Nat} (hf : f.natAbs < 10 ^ 100) (hp : pl ≤ 60) (h : ∀ ds : List D, ds.length ≤ 12 → (∀ d ∈ ds, TxF f pl d) → Q (.lst ds)) : m_law_styles [.int f, .int (pl : Int)] Q W := by
  unfold m_law_styles
  simp only [mFun_eq]
  refine ⟨rfl, ?_⟩
  refine stI [.dat (.int f), .dat (.int (pl : Int)), .own [], .un, .un, .un] (fun k hk => by simpa using hk) ?_
  refine stP (fun ρ => ∃ (ds : List D) (x y z : Sl), ρ = [.dat (.int f), .dat (.int (pl : Int)), .own ds, x, y, z] ∧ ds.length ≤ 12 ∧ ∀ d ∈ ds, TxF f pl d) (fun k hk => ?_) ?_
  rotate_left
  · rintro ρ ⟨ds, x, y, z, rfl, h1, h2⟩
    simp
    exact h ds h1 h2
  have szb : ∀ n, n ≤ 12 → n < sizeLine := fun n h => by rw [sz_eq]; omega
  simp only [mFor_eq, mFrz_eq, mLst_eq, mCons_eq, mNil_eq, mC_eq, asL_lst]
  refine ⟨by rw [sz_eq]; decide, ?_⟩
  refine forL (fun i ρ => ∃ (ds : List D) (x y z : Sl), ρ = [.dat (.int f), .dat (.int (pl : Int)), .own ds, x, y, z] ∧ (ds.length = 6 * i ∧ i ≤ 2) ∧ ∀ d ∈ ds, TxF f pl d) ⟨[], _, _, _, rfl, ⟨rfl, by omega⟩, fun _ h => nomatch h⟩ ?_ ?_
  · rintro ρ ⟨ds, x, y, z, rfl, h1, h2⟩
    exact hk _ ⟨ds, x, y, z, rfl, by omega, h2⟩
  rintro i d ρ k1 hi ⟨ds, x, y, z, rfl, ⟨h1, h1'⟩, h2⟩ hk1
  have hi2 : i < 2 := by have := (List.getElem?_eq_some_iff.mp hi).1; simpa using this
  obtain ⟨sg, rfl⟩ : ∃ b, d = .bl b := by
    have := List.mem_of_getElem? hi
    simp at this
    rcases this with rfl | rfl <;> exact ⟨_, rfl⟩
  simp only [gNm_eq, List.set_cons_succ, List.set_cons_zero]
  refine ⟨by rw [sz_eq]; decide, ?_⟩
  refine forL (fun j ρ => ∃ (ds : List D) (y z : Sl), ρ = [.dat (.int f), .dat (.int (pl : Int)), .own ds, .dat (.bl sg), y, z] ∧ (ds.length = 6 * i + 3 * j ∧ j ≤ 2) ∧ ∀ d ∈ ds, TxF f pl d) ⟨ds, _, _, rfl, ⟨by omega, by omega⟩, h2⟩ ?_ ?_
  · rintro ρ ⟨ds, y, z, rfl, h1, h2⟩
    exact hk1 _ ⟨ds, _, y, z, rfl, ⟨by simp at h1; omega, by omega⟩, h2⟩
  rintro j d ρ k2 hj ⟨ds, y, z, rfl, ⟨h3, h3'⟩, h4⟩ hk2
  have hj2 : j < 2 := by have := (List.getElem?_eq_some_iff.mp hj).1; simpa using this
  obtain ⟨gr, rfl⟩ : ∃ b, d = .bl b := by
    have := List.mem_of_getElem? hj
    simp at this
    rcases this with rfl | rfl <;> exact ⟨_, rfl⟩
  simp only [gNm_eq, List.set_cons_succ, List.set_cons_zero]
  refine ⟨by rw [sz_eq]; decide, ?_⟩
  refine forL (fun t ρ => ∃ (ds : List D) (z : Sl), ρ = [.dat (.int f), .dat (.int (pl : Int)), .own ds, .dat (.bl sg), .dat (.bl gr), z] ∧ (ds.length = 6 * i + 3 * j + t ∧ t ≤ 3) ∧ ∀ d ∈ ds, TxF f pl d) ⟨ds, _, rfl, ⟨by omega, by omega⟩, h4⟩ ?_ ?_
  · rintro ρ ⟨ds, z, rfl, h1, h2⟩
    exact hk2 _ ⟨ds, _, z, rfl, ⟨by simp at h1; omega, by omega⟩, h2⟩
  rintro t d ρ k3 ht ⟨ds, z, rfl, ⟨h5, h5'⟩, h6⟩ hk3
  have ht2 : t < 3 := by have := (List.getElem?_eq_some_iff.mp ht).1; simpa using this
  obtain ⟨w, rfl, hw⟩ : ∃ w : Nat, d = .int (w : Int) ∧ w ≤ 200 := by
    have := List.mem_of_getElem? ht
    simp at this
    rcases this with rfl | rfl | rfl
    · exact ⟨0, rfl, by decide⟩
    · exact ⟨8, rfl, by decide⟩
    · exact ⟨130, rfl, by decide⟩
  simp only [gNm_eq, List.set_cons_succ, List.set_cons_zero]
  simp
  refine c_text_of hf hp hw ?_
  refine ⟨szb _ (by omega), hk3 _ ⟨ds ++ [.str (Sx (txL f pl sg gr w))], _, rfl, ⟨by rw [List.length_append, List.length_singleton]; omega, by omega⟩, fun d hd => ?_⟩⟩
  rcases List.mem_append.mp hd with hd | hd
  · exact h6 d hd
  · exact ⟨sg, gr, w, hw, List.mem_singleton.mp hd⟩
/-! three texts that stand in the law -/
theorem valL_nines : ∀ n : Nat, valL (List.replicate n 57) = 10 ^ n - 1
  | 0 => rfl
  | n + 1 => by rw [List.replicate_succ', valL_snoc, valL_nines n, Int.pow_succ]; omega
theorem valL_onez : ∀ n : Nat, valL (49 :: List.replicate n 48) = 10 ^ n
  | 0 => rfl
  | n + 1 => by
    have := valL_onez n
    rw [List.replicate_succ', ← List.cons_append, valL_snoc, this, Int.pow_succ]; omega
theorem nine_dig {n : Nat} : allD (List.replicate n 57) := fun c hc => by rw [(List.mem_replicate.mp hc).2]; rfl
theorem tup_ne {a b : Int} : dNe (.tup [.int a, .int b]) (.tup [.int a, .int b]) Q = Q (.bl false) := by simp [okE_eq]
theorem tup_eq {a b : Int} : dEq (.tup [.int a, .int b]) (.tup [.int a, .int b]) Q = Q (.bl true) := by simp [okE_eq]
theorem c_nines (h : Q (.tup [.int (10 ^ 1900 - 1), .int 0])) : m_read_text [.str (Sx (List.replicate 1900 57))] Q W := by
  refine c_read_text (by rw [List.length_replicate]; decide) ?_
  have e : readP (List.replicate 1900 57) = .inl (false, List.replicate 1900 57, []) := by
    have := readP_mk (k := 0) (s := []) (F := List.replicate 1900 57) (T := List.replicate 1900 57) (X := []) (R := []) (.inl rfl)
      (front_plain (by intro z; have := congrArg List.length z; rw [List.length_replicate] at this; cases this) nine_dig (by intro z; rw [show (1900 : Nat) = 1899 + 1 from rfl, List.replicate_succ] at z; cases z) (.inl rfl))
      ⟨57, by rw [show (1900 : Nat) = 1899 + 1 from rfl, List.replicate_succ]; rfl, rfl⟩ (.inl ⟨rfl, rfl⟩)
    rw [List.replicate_zero, List.nil_append, List.nil_append, List.append_nil] at this
    exact this
  rw [e]
  dsimp only
  rw [List.append_nil, valL_nines]
  exact ⟨nine_dig, by rw [List.length_replicate]; decide, h⟩
theorem c_onez (h : Q (.tup [.int (10 ^ 300 * 10 + 5), .int 1])) : m_read_text [.str (Sx ((49 :: List.replicate 300 48) ++ [46, 53]))] Q W := by
  have dd : allD (49 :: List.replicate 300 48) := fun c hc => by
    rcases List.mem_cons.mp hc with rfl | hc
    · rfl
    · exact rep_dig c hc
  refine c_read_text (by simp [rdMost]) ?_
  have e : readP ((49 :: List.replicate 300 48) ++ [46, 53]) = .inl (false, 49 :: List.replicate 300 48, [53]) := by
    have := readP_mk (k := 0) (s := []) (F := 49 :: List.replicate 300 48) (T := 49 :: List.replicate 300 48) (X := [46, 53]) (R := [53]) (.inl rfl)
      (front_plain (by simp) dd (by intro z; cases z) (.inr rfl)) ⟨49, rfl, rfl⟩ (.inr ⟨rfl, by simp, by simp, fun c hc => by rw [List.mem_singleton.mp hc]; rfl⟩)
    rw [List.replicate_zero, List.nil_append, List.nil_append] at this
    exact this
  rw [e]
  dsimp only
  rw [valL_snoc, valL_onez]
  exact ⟨allD_app dd fun c hc => by rw [List.mem_singleton.mp hc]; rfl, by simp [rdMost], h⟩
end
end Hm
set_option Elab.async false
set_option linter.all false
set_option maxRecDepth 100000
set_option maxHeartbeats 400000
namespace Hm
open PySem L2
theorem all_two {P : D → Prop} {a b : D} (ha : P a) (hb : P b) : ∀ d ∈ [a, b], P d := by simp [ha, hb]
theorem txL_00 {f : Int} {pl : Nat} : txL f pl false false 0 = rowS f pl false false := by
  unfold txL
  rw [Nat.zero_sub]; rfl
theorem rowS_zero {pl : Nat} {sg : Bool} : rowS 0 pl sg false = rowP 0 pl false := by
  unfold rowS
  rw [if_neg (by decide), if_neg (fun z => absurd z.2 (by decide))]
  rfl
theorem cp1 : CPowW 10 50 := ⟨by decide, by decide +kernel⟩
theorem cp2 : CPowW (10 ^ 50) 38 := ⟨by decide, by decide +kernel⟩
theorem cp3 : CPowW (10 ^ 50) 6 := ⟨by decide, by decide +kernel⟩
theorem law_true : m_law (.un :: .dat .src :: List.replicate 6 .un) { nx := fun _ => False, rt := fun d => ∃ b, d = .bl b ∧ b = true, bk := fun _ => False, ct := fun _ => False, ex := fun _ _ => False } := by
  unfold m_law
  refine stP (fun ρ => ∃ c d e f g h : Sl, ρ = [.un, .dat .src, c, d, e, f, g, h]) (fun k hk => ?_) ?_
  · simp [-mForL_cons]
    refine forR (fun _ ρ => ∃ c d e f g h : Sl, ρ = [.un, .dat .src, c, d, e, f, g, h]) ⟨_, _, _, _, _, _, rfl⟩ hk ?_
    rintro n ρ kk hn ⟨c, d, e, f, g, h, rfl⟩ hk2
    simp only [gNm_eq, List.set_cons_succ, List.set_cons_zero]
    generalize (Sl.dat (.int (0 + (n : Int)))) = z0
    refine stP (fun ρ => ∃ fi : Int, -(10 ^ 60) ≤ fi ∧ fi ≤ 10 ^ 60 ∧ ρ = [.un, .dat .src, z0, .dat (.int fi), e, f, g, h]) (fun k2 hk3 => ?_) ?_
    · simp
      refine c_pick (by simp) (by simp) fun dg hdg => ?_
      obtain ⟨N, rfl, N0⟩ : ∃ N : Nat, dg = .int (N : Int) ∧ N ≤ 60 := by
        simp only [List.mem_cons, List.not_mem_nil, or_false] at hdg
        rcases hdg with rfl | rfl | rfl | rfl | rfl | rfl | rfl | rfl
        · exact ⟨1, rfl, by decide⟩
        · exact ⟨2, rfl, by decide⟩
        · exact ⟨3, rfl, by decide⟩
        · exact ⟨4, rfl, by decide⟩
        · exact ⟨5, rfl, by decide⟩
        · exact ⟨7, rfl, by decide⟩
        · exact ⟨30, rfl, by decide⟩
        · exact ⟨60, rfl, by decide⟩
      refine c_great N (by omega) (Int.le_refl _) N0 fun r r0 r1 => ?_
      have p60 : (10 : Int) ^ N ≤ 10 ^ 60 := by
        have : (10 : Nat) ^ N ≤ 10 ^ 60 := Nat.pow_le_pow_right (by decide) N0
        exact_mod_cast this
      refine c_pick (by simp) (by simp) ?_
      refine all_two ?_ ?_
      · simp only [dMul_ii]
        exact ⟨cmul (sm_of (by omega) (by omega)) (sm_lit (by decide)), hk3 _ ⟨r, by omega, by omega, by simp⟩⟩
      · simp only [dMul_ii]
        exact ⟨cmul (sm_of (by omega) (by omega)) (sm_lit (by decide)), hk3 _ ⟨-r, by omega, by omega, by simp⟩⟩
    rintro ρ1 ⟨fi, f1, f2, rfl⟩
    refine stP (fun ρ => ∃ pl : Nat, pl ≤ 60 ∧ ρ = [.un, .dat .src, z0, .dat (.int fi), .dat (.int (pl : Int)), f, g, h]) (fun k2 hk3 => ?_) ?_
    · simp
      refine c_pick (by simp) (by simp) fun dg hdg => ?_
      simp only [List.mem_cons, List.not_mem_nil, or_false] at hdg
      rcases hdg with rfl | rfl | rfl | rfl | rfl | rfl | rfl | rfl
      · exact hk3 _ ⟨0, by decide, by simp⟩
      · exact hk3 _ ⟨0, by decide, by simp⟩
      · exact hk3 _ ⟨1, by decide, by simp⟩
      · exact hk3 _ ⟨2, by decide, by simp⟩
      · exact hk3 _ ⟨3, by decide, by simp⟩
      · exact hk3 _ ⟨6, by decide, by simp⟩
      · exact hk3 _ ⟨59, by decide, by simp⟩
      · exact hk3 _ ⟨60, by decide, by simp⟩
    rintro ρ1 ⟨pl, p1, rfl⟩
    have hfb : fi.natAbs < 10 ^ 100 := by
      have : (10 : Nat) ^ 60 < 10 ^ 100 := Nat.pow_lt_pow_right (by decide) (by decide)
      omega
    -- the styles
    refine stP (fun ρ => ∃ f : Sl, ρ = [.un, .dat .src, z0, .dat (.int fi), .dat (.int (pl : Int)), f, g, h]) (fun k2 hk3 => ?_) ?_
    · simp only [mFor_eq, mCall_eq, mCons_eq, mNil_eq, mVar_eq, List.getElem?_cons_succ, List.getElem?_cons_zero, datOf_dat]
      refine c_styles hfb p1 fun ds hds ht => ?_
      simp only [asL_lst]
      refine forL (fun _ ρ => ∃ f : Sl, ρ = [.un, .dat .src, z0, .dat (.int fi), .dat (.int (pl : Int)), f, g, h]) ⟨_, rfl⟩ (fun ρ ⟨f, e⟩ => hk3 _ ⟨f, e⟩) ?_
      rintro i x ρ k4 hx ⟨f', rfl⟩ hk4
      obtain ⟨sg, gr, w, hw, rfl⟩ := ht x (List.mem_of_getElem? hx)
      have hrow := rowS_len (sg := sg) (gr := gr) hfb (by omega : pl ≤ 100)
      have hlen : (txL fi pl sg gr w).length ≤ 700 := by
        unfold txL
        rw [List.length_append, List.length_replicate]; omega
      simp only [gNm_eq, List.set_cons_succ, List.set_cons_zero]
      simp
      have r1 : ∀ {Q : DK} {W : XKD}, Q (.tup [.int fi, .int (pl : Int)]) → m_read_text [.str (Sx (txL fi pl sg gr w))] Q W := fun q => by
        unfold txL
        exact c_read_row hfb p1 (by omega) q
      have e3 : Str.ofString "   " = Sx [32, 32, 32] := by decide +kernel
      have r2 : ∀ {Q : DK} {W : XKD}, Q (.tup [.int fi, .int (pl : Int)]) → m_read_text [.str (Str.ofString "   " ++ Sx (txL fi pl sg gr w))] Q W := fun q => by
        rw [e3, sx_app]
        have : [32, 32, 32] ++ txL fi pl sg gr w = List.replicate (3 + (w - (rowS fi pl sg gr).length)) 32 ++ rowS fi pl sg gr := by
          unfold txL
          rw [← List.replicate_append_replicate, List.append_assoc]; rfl
        rw [this]
        exact c_read_row hfb p1 (by omega) q
      refine r1 ?_
      rw [tup_ne]
      simp
      refine ⟨by rw [e3, sx_len, sx_len]; simp; omega, r2 ?_⟩
      rw [tup_ne]
      simp
      exact hk4 _ ⟨_, rfl⟩
    rintro ρ1 ⟨f', rfl⟩
    refine stP (fun ρ => ∃ oi : Int, oi.natAbs < 10 ^ 100 ∧ ρ = [.un, .dat .src, z0, .dat (.int fi), .dat (.int (pl : Int)), f', .dat (.int oi), h]) (fun k2 hk3 => ?_) ?_
    · simp
      refine ⟨cmul (sm_of (by omega) (by omega)) (sm_lit (by decide)), ?_⟩
      refine c_pick (by simp) (by simp) fun dg hdg => ?_
      have p61 : (10 : Nat) ^ 60 * 10 + 1 < 10 ^ 100 := by decide +kernel
      have : ∃ oi : Int, dg = .int oi ∧ oi.natAbs < 10 ^ 100 := by
        simp only [List.mem_cons, List.not_mem_nil, or_false] at hdg
        rcases hdg with rfl | rfl | rfl | rfl | rfl <;> exact ⟨_, rfl, by omega⟩
      obtain ⟨oi, rfl, ho⟩ := this
      exact hk3 _ ⟨oi, ho, rfl⟩
    rintro ρ1 ⟨oi, ho, rfl⟩
    refine stI [.un, .dat .src, z0, .dat (.int fi), .dat (.int (pl : Int)), f', .dat (.int oi), h] (fun k2 hk3 => ?_) ?_
    · simp
      refine c_text_of (w := 0) hfb p1 (by omega) ?_
      refine c_text_of (w := 0) ho p1 (by omega) ?_
      rw [txL_00, txL_00]
      simp
      have : (rowS fi pl false false = rowS oi pl false false) ↔ fi = oi := ⟨row_inj p1, fun e => by rw [e]⟩
      by_cases c : fi = oi
      · subst c
        simpa using hk3
      · have c2 : ¬ rowS fi pl false false = rowS oi pl false false := fun z => c (this.mp z)
        simp [c, sx_iff, c2]
        simpa using hk3
    refine stI [.un, .dat .src, z0, .dat (.int fi), .dat (.int (pl : Int)), f', .dat (.int oi), .dat (.str (Sx (45 :: rowP 0 pl false)))] (fun k2 hk3 => ?_) ?_
    · simp
      refine c_text_of (w := 0) (by decide) p1 (by omega) ?_
      rw [txL_00, rowS_zero]
      have hrow := rowS_len (f := 0) (sg := false) (gr := false) (by decide) (by omega : pl ≤ 100)
      rw [rowS_zero] at hrow
      simp only [dAdd_ss]
      rw [str_minus, sx_app, sx_len, sx_len]
      exact ⟨by rw [sz_eq]; simp; omega, hk3⟩
    have hrow := rowS_len (f := 0) (sg := false) (gr := false) (by decide) (by omega : pl ≤ 100)
    rw [rowS_zero] at hrow
    have rn : ∀ {Q : DK} {W : XKD}, Q (.tup [.int 0, .int (pl : Int)]) → m_read_text [.str (Sx (45 :: rowP 0 pl false))] Q W := fun {Q W} q => by
      have := read_s (k := 0) (n := 0) (pl := pl) (s := [45]) (gr := false) (Q := Q) (W := W) (.inr (.inl rfl)) (by decide) p1 (by rw [List.replicate_zero, List.nil_append, List.length_append]; simp [rdMost]; omega) (by simpa using q)
      exact this
    simp
    refine rn ?_
    rw [tup_ne]
    simp
    refine c_text_of (w := 0) (sg := true) (by decide) p1 (by omega) ?_
    have et : txL 0 pl true false 0 = rowP 0 pl false := by
      unfold txL
      rw [Nat.zero_sub, rowS_zero]; rfl
    rw [et]
    have e48 : (rowP 0 pl false).take 1 = [48] := by
      rw [row_parts]
      have hd : padT 0 pl = [48] := by
        unfold padT padD
        rw [dL_zero, List.length_nil, Nat.sub_zero, List.reverse_nil, List.append_nil, List.length_replicate, show pl + 1 - pl = 1 by omega, List.replicate_succ, List.take_succ_cons, List.take_zero]
      rw [if_neg (by simp), hd]
      rfl
    simp only [dSl_s]
    refine ⟨by rw [sx_len, sz_eq]; omega, ?_⟩
    rw [take_sx (by omega), show (1 : Int).toNat = 1 from rfl, e48, str_nought]
    simp
    exact hk2 _ ⟨_, _, _, _, _, _, rfl⟩
  rintro ρ ⟨c, d, e, f, g, h, rfl⟩
  refine stI [.un, .dat .src, c, d, e, f, g, h] (fun k hk => ?_) ?_
  · have e9 : Str.ofString "9" = Sx [57] := by decide +kernel
    have cm : CMulS (Str.ofString "9") 1900 := by unfold CMulS; decide +kernel
    have pe : ((10 : Int) ^ 50) ^ 38 - 1 = 10 ^ 1900 - 1 := by rw [← Int.pow_mul]
    simp only [mIfS_eq, mTest_eq, mOp_eq, mCall_eq, mCons_eq, mNil_eq, mC_eq, mTup_eq, dMulS_eq, dPow_ii, dSub_ii]
    refine ⟨cm, ?_⟩
    rw [e9, mul_sx, show (1900 : Int).toNat = 1900 from rfl]
    refine c_nines ?_
    rw [show (50 : Int).toNat = 50 from rfl, show (38 : Int).toNat = 38 from rfl, pe, tup_ne]
    refine ⟨cp1, cp2, by rw [sz_eq]; decide, ?_⟩
    simp
    exact hk
  refine stI [.un, .dat .src, c, d, e, f, g, h] (fun k hk => ?_) ?_
  · have e0 : Str.ofString "0" = Sx [48] := by decide +kernel
    have e1 : Str.ofString "1" = Sx [49] := by decide +kernel
    have e5 : Str.ofString ".5" = Sx [46, 53] := by decide +kernel
    have cm : CMulS (Str.ofString "0") 300 := by unfold CMulS; decide +kernel
    have pe : ((10 : Int) ^ 50) ^ 6 * 10 + 5 = 10 ^ 300 * 10 + 5 := by rw [← Int.pow_mul]
    have cw : CMulW (((10 : Int) ^ 50) ^ 6) 10 := wide_mul (a := 1200) (b := 4) (by rw [← Int.pow_mul]; decide +kernel) (by decide) (by decide) (by decide) (by decide)
    simp only [mIfS_eq, mTest_eq, mOp_eq, mCall_eq, mCons_eq, mNil_eq, mC_eq, mTup_eq, dMulS_eq, dPow_ii, dAdd_ss, dAdd_ii, dMul_ii]
    refine ⟨cm, ?_⟩
    rw [e0, e1, e5, mul_sx, show (300 : Int).toNat = 300 from rfl, sx_app, sx_len, sx_len, sx_len]
    refine ⟨by rw [sz_eq]; simp, ?_⟩
    rw [sx_app]
    refine ⟨by rw [sz_eq]; simp [sx_len], ?_⟩
    refine c_onez ?_
    rw [show (50 : Int).toNat = 50 from rfl, show (6 : Int).toNat = 6 from rfl, pe, tup_ne]
    refine ⟨cp1, cp3, cw, by rw [sz_eq]; decide, ?_⟩
    simp
    exact hk
  have g1 : Str.ofString "+1,000.50" = Sx [43, 49, 44, 48, 48, 48, 46, 53, 48] := by decide +kernel
  have g2 : Str.ofString "  12" = Sx [32, 32, 49, 50] := by decide +kernel
  have q1 : readP [43, 49, 44, 48, 48, 48, 46, 53, 48] = .inl (false, [49, 48, 48, 48], [53, 48]) := by decide +kernel
  have q2 : readP [32, 32, 49, 50] = .inl (false, [49, 50], []) := by decide +kernel
  simp
  rw [g1, g2]
  refine c_read_text (by decide) ?_
  rw [q1]
  refine ⟨by decide, by decide, ?_⟩
  have v1 : (if false = true then -valL ([49, 48, 48, 48] ++ [53, 48]) else valL ([49, 48, 48, 48] ++ [53, 48])) = 100050 := by decide +kernel
  have v2 : (if false = true then -valL ([49, 50] ++ []) else valL ([49, 50] ++ [])) = 12 := by decide +kernel
  rw [v1]
  show dEq (.tup [.int 100050, .int 2]) (.tup [.int 100050, .int 2]) _
  rw [tup_eq]
  simp
  refine c_read_text (by decide) ?_
  rw [q2]
  refine ⟨by decide, by decide, ?_⟩
  rw [v2]
  show dEq (.tup [.int 12, .int 0]) (.tup [.int 12, .int 0]) _
  rw [tup_eq]
  all_goals exact ⟨_, rfl, rfl⟩
end Hm
open PySem PySem.W PyProof.Rows
set_option maxRecDepth 100000 in
set_option maxHeartbeats 0 in
theorem PySem.Challenge.cw_handedtext_k02_whole_texts_read_holds : PySem.Challenge.rw_handedtext_k02_whole_texts_read.Holds := by
  w_on; o_law; k_head; (case hw => w_witness2)
  k_fill
  refine L2.walk_of (l := PySem.Challenge.rw_handedtext_k02_whole_texts_read) (n := 63) (k := 7) (x := "_law_script") (CX := fun w => L2.CX PySem.Challenge.rw_handedtext_k02_whole_texts_read.prog w) (sp := fun w => Hm.spLaw _ 6 Hm.m_law) rfl (by decide) rfl ⟨rfl, by decide, by decide⟩ (fun w h Y => by first | exact PySem.W.kIn_of Y | exact PySem.W.km_in_of Y) ?F (fun _ _ a ns hl _ hS => ⟨a, ns, rfl, hS, hl, Hm.law_true, fun _ => rfl⟩) (fun w H s e s' h => Hm.cx_end h)
  case F =>
    intro w mg fa h KX G hmg
    refine' Hm.all_mk KX G hmg ?og_Reader ?osf_Reader ?opg_Reader ?ohd_Reader ?opo_Reader ?osa_Reader ?oha_Reader ?ohm_Reader ?omk_Reader ?okp_Reader ?ofn_Reader_at ?ofn_Reader_text ?okT_Reader_NoneType ?okT_Reader_bool ?okT_Reader_int ?okT_Reader_str ?okT_Reader_tuple ?okT_Reader_list ?okT_Reader_dict ?okC_Reader_Reader ?oxn ?oxt ?a0 ?l0 ?c0 ?k0 ?fi0 ?fn0 ?a1 ?l1 ?c1 ?k1 ?fi1 ?fn1 ?a2 ?l2 ?c2 ?k2 ?fi2 ?fn2 ?a3 ?l3 ?c3 ?k3 ?fi3 ?fn3 ?a4 ?l4 ?c4 ?k4 ?fi4 ?fn4 ?a5 ?l5 ?c5 ?k5 ?fi5 ?fn5 ?a6 ?l6 ?c6 ?k6 ?a7 ?l7 ?c7 ?k7 ?a8 ?l8 ?c8 ?k8 ?a9 ?l9 ?c9 ?k9 ?a10 ?l10 ?c10 ?k10 ?a11 ?l11 ?c11 ?k11 ?a12 ?l12 ?c12 ?k12 ?a13 ?l13 ?c13 ?k13 ?kd13_sign ?kd13_group ?kd13_width ?a14 ?l14 ?c14 ?k14 ?a15 ?l15 ?c15 ?k15 ?a16 ?l16 ?c16 ?k16 ?a17 ?l17 ?c17 ?k17 ?g_InvalidText ?k_InvalidText ?b_InvalidText ?t_InvalidText ?xiC_InvalidText ?xtI_InvalidText ?xlI_InvalidText ?xcI_InvalidText ?xce_InvalidText ?xco_InvalidText ?xvI_InvalidText ?xpI_InvalidText ?xox_InvalidText ?xrv_InvalidText ?xsa_InvalidText ?xms_InvalidText ?xsu_InvalidText ?xiv_InvalidText ?xga_InvalidText ?xgg_InvalidText ?xhd_InvalidText ?xno_InvalidText_at ?xst ?xsn ?g_InvalidPlaces ?x_InvalidPlaces ?k_InvalidPlaces ?b_InvalidPlaces ?t_InvalidPlaces ?g_InvalidStyle ?x_InvalidStyle ?k_InvalidStyle ?b_InvalidStyle ?t_InvalidStyle ?g_InvalidValue ?x_InvalidValue ?k_InvalidValue ?b_InvalidValue ?t_InvalidValue ?v_DIGITS ?v_MOST_PLACES ?v_MOST_WIDTH ?z_abs ?z_bool ?z_int ?z_isinstance ?z_len ?z_range ?z_str
    (case og_Reader => first | k_is | rfl | decide +kernel | k_exc | (refine ⟨⟨_, _, rfl, rfl⟩, ?_⟩; repeat (first | exact True.intro | refine ⟨⟨_, _, rfl, rfl⟩, ?_⟩))); (case osf_Reader => first | k_is | rfl | decide +kernel | k_exc | (refine ⟨⟨_, _, rfl, rfl⟩, ?_⟩; repeat (first | exact True.intro | refine ⟨⟨_, _, rfl, rfl⟩, ?_⟩))); (case opg_Reader => first | k_is | rfl | decide +kernel | k_exc | (refine ⟨⟨_, _, rfl, rfl⟩, ?_⟩; repeat (first | exact True.intro | refine ⟨⟨_, _, rfl, rfl⟩, ?_⟩))); (case ohd_Reader => first | k_is | rfl | decide +kernel | k_exc | (refine ⟨⟨_, _, rfl, rfl⟩, ?_⟩; repeat (first | exact True.intro | refine ⟨⟨_, _, rfl, rfl⟩, ?_⟩))); (case opo_Reader => first | k_is | rfl | decide +kernel | k_exc | (refine ⟨⟨_, _, rfl, rfl⟩, ?_⟩; repeat (first | exact True.intro | refine ⟨⟨_, _, rfl, rfl⟩, ?_⟩))); (case osa_Reader => first | k_is | rfl | decide +kernel | k_exc | (refine ⟨⟨_, _, rfl, rfl⟩, ?_⟩; repeat (first | exact True.intro | refine ⟨⟨_, _, rfl, rfl⟩, ?_⟩))); (case oha_Reader => first | k_is | rfl | decide +kernel | k_exc | (refine ⟨⟨_, _, rfl, rfl⟩, ?_⟩; repeat (first | exact True.intro | refine ⟨⟨_, _, rfl, rfl⟩, ?_⟩))); (case ohm_Reader => first | k_is | rfl | decide +kernel | k_exc | (refine ⟨⟨_, _, rfl, rfl⟩, ?_⟩; repeat (first | exact True.intro | refine ⟨⟨_, _, rfl, rfl⟩, ?_⟩))); (case omk_Reader => first | k_is | rfl | decide +kernel | k_exc | (refine ⟨⟨_, _, rfl, rfl⟩, ?_⟩; repeat (first | exact True.intro | refine ⟨⟨_, _, rfl, rfl⟩, ?_⟩))); (case okp_Reader => first | k_is | rfl | decide +kernel | k_exc | (refine ⟨⟨_, _, rfl, rfl⟩, ?_⟩; repeat (first | exact True.intro | refine ⟨⟨_, _, rfl, rfl⟩, ?_⟩))); (case ofn_Reader_at => first | k_is | rfl | decide +kernel | k_exc | (refine ⟨⟨_, _, rfl, rfl⟩, ?_⟩; repeat (first | exact True.intro | refine ⟨⟨_, _, rfl, rfl⟩, ?_⟩))); (case ofn_Reader_text => first | k_is | rfl | decide +kernel | k_exc | (refine ⟨⟨_, _, rfl, rfl⟩, ?_⟩; repeat (first | exact True.intro | refine ⟨⟨_, _, rfl, rfl⟩, ?_⟩))); (case okT_Reader_NoneType => first | k_is | rfl | decide +kernel | k_exc | (refine ⟨⟨_, _, rfl, rfl⟩, ?_⟩; repeat (first | exact True.intro | refine ⟨⟨_, _, rfl, rfl⟩, ?_⟩))); (case okT_Reader_bool => first | k_is | rfl | decide +kernel | k_exc | (refine ⟨⟨_, _, rfl, rfl⟩, ?_⟩; repeat (first | exact True.intro | refine ⟨⟨_, _, rfl, rfl⟩, ?_⟩))); (case okT_Reader_int => first | k_is | rfl | decide +kernel | k_exc | (refine ⟨⟨_, _, rfl, rfl⟩, ?_⟩; repeat (first | exact True.intro | refine ⟨⟨_, _, rfl, rfl⟩, ?_⟩))); (case okT_Reader_str => first | k_is | rfl | decide +kernel | k_exc | (refine ⟨⟨_, _, rfl, rfl⟩, ?_⟩; repeat (first | exact True.intro | refine ⟨⟨_, _, rfl, rfl⟩, ?_⟩))); (case okT_Reader_tuple => first | k_is | rfl | decide +kernel | k_exc | (refine ⟨⟨_, _, rfl, rfl⟩, ?_⟩; repeat (first | exact True.intro | refine ⟨⟨_, _, rfl, rfl⟩, ?_⟩))); (case okT_Reader_list => first | k_is | rfl | decide +kernel | k_exc | (refine ⟨⟨_, _, rfl, rfl⟩, ?_⟩; repeat (first | exact True.intro | refine ⟨⟨_, _, rfl, rfl⟩, ?_⟩))); (case okT_Reader_dict => first | k_is | rfl | decide +kernel | k_exc | (refine ⟨⟨_, _, rfl, rfl⟩, ?_⟩; repeat (first | exact True.intro | refine ⟨⟨_, _, rfl, rfl⟩, ?_⟩))); (case okC_Reader_Reader => first | k_is | rfl | decide +kernel | k_exc | (refine ⟨⟨_, _, rfl, rfl⟩, ?_⟩; repeat (first | exact True.intro | refine ⟨⟨_, _, rfl, rfl⟩, ?_⟩))); (case oxn => first | k_is | rfl | decide +kernel | k_exc | (refine ⟨⟨_, _, rfl, rfl⟩, ?_⟩; repeat (first | exact True.intro | refine ⟨⟨_, _, rfl, rfl⟩, ?_⟩))); (case oxt => first | k_is | rfl | decide +kernel | k_exc | (refine ⟨⟨_, _, rfl, rfl⟩, ?_⟩; repeat (first | exact True.intro | refine ⟨⟨_, _, rfl, rfl⟩, ?_⟩))); (case a0 => first | k_is | rfl | decide +kernel | k_exc | (refine ⟨⟨_, _, rfl, rfl⟩, ?_⟩; repeat (first | exact True.intro | refine ⟨⟨_, _, rfl, rfl⟩, ?_⟩))); (case l0 => first | k_is | rfl | decide +kernel | k_exc | (refine ⟨⟨_, _, rfl, rfl⟩, ?_⟩; repeat (first | exact True.intro | refine ⟨⟨_, _, rfl, rfl⟩, ?_⟩))); (case c0 => first | k_is | rfl | decide +kernel | k_exc | (refine ⟨⟨_, _, rfl, rfl⟩, ?_⟩; repeat (first | exact True.intro | refine ⟨⟨_, _, rfl, rfl⟩, ?_⟩))); (case k0 => first | k_is | rfl | decide +kernel | k_exc | (refine ⟨⟨_, _, rfl, rfl⟩, ?_⟩; repeat (first | exact True.intro | refine ⟨⟨_, _, rfl, rfl⟩, ?_⟩))); (case fi0 => first | k_is | rfl | decide +kernel | k_exc | (refine ⟨⟨_, _, rfl, rfl⟩, ?_⟩; repeat (first | exact True.intro | refine ⟨⟨_, _, rfl, rfl⟩, ?_⟩))); (case fn0 => first | k_is | rfl | decide +kernel | k_exc | (refine ⟨⟨_, _, rfl, rfl⟩, ?_⟩; repeat (first | exact True.intro | refine ⟨⟨_, _, rfl, rfl⟩, ?_⟩))); (case a1 => first | k_is | rfl | decide +kernel | k_exc | (refine ⟨⟨_, _, rfl, rfl⟩, ?_⟩; repeat (first | exact True.intro | refine ⟨⟨_, _, rfl, rfl⟩, ?_⟩))); (case l1 => first | k_is | rfl | decide +kernel | k_exc | (refine ⟨⟨_, _, rfl, rfl⟩, ?_⟩; repeat (first | exact True.intro | refine ⟨⟨_, _, rfl, rfl⟩, ?_⟩))); (case c1 => first | k_is | rfl | decide +kernel | k_exc | (refine ⟨⟨_, _, rfl, rfl⟩, ?_⟩; repeat (first | exact True.intro | refine ⟨⟨_, _, rfl, rfl⟩, ?_⟩))); (case k1 => first | k_is | rfl | decide +kernel | k_exc | (refine ⟨⟨_, _, rfl, rfl⟩, ?_⟩; repeat (first | exact True.intro | refine ⟨⟨_, _, rfl, rfl⟩, ?_⟩))); (case fi1 => first | k_is | rfl | decide +kernel | k_exc | (refine ⟨⟨_, _, rfl, rfl⟩, ?_⟩; repeat (first | exact True.intro | refine ⟨⟨_, _, rfl, rfl⟩, ?_⟩))); (case fn1 => first | k_is | rfl | decide +kernel | k_exc | (refine ⟨⟨_, _, rfl, rfl⟩, ?_⟩; repeat (first | exact True.intro | refine ⟨⟨_, _, rfl, rfl⟩, ?_⟩))); (case a2 => first | k_is | rfl | decide +kernel | k_exc | (refine ⟨⟨_, _, rfl, rfl⟩, ?_⟩; repeat (first | exact True.intro | refine ⟨⟨_, _, rfl, rfl⟩, ?_⟩))); (case l2 => first | k_is | rfl | decide +kernel | k_exc | (refine ⟨⟨_, _, rfl, rfl⟩, ?_⟩; repeat (first | exact True.intro | refine ⟨⟨_, _, rfl, rfl⟩, ?_⟩))); (case c2 => first | k_is | rfl | decide +kernel | k_exc | (refine ⟨⟨_, _, rfl, rfl⟩, ?_⟩; repeat (first | exact True.intro | refine ⟨⟨_, _, rfl, rfl⟩, ?_⟩))); (case k2 => first | k_is | rfl | decide +kernel | k_exc | (refine ⟨⟨_, _, rfl, rfl⟩, ?_⟩; repeat (first | exact True.intro | refine ⟨⟨_, _, rfl, rfl⟩, ?_⟩))); (case fi2 => first | k_is | rfl | decide +kernel | k_exc | (refine ⟨⟨_, _, rfl, rfl⟩, ?_⟩; repeat (first | exact True.intro | refine ⟨⟨_, _, rfl, rfl⟩, ?_⟩))); (case fn2 => first | k_is | rfl | decide +kernel | k_exc | (refine ⟨⟨_, _, rfl, rfl⟩, ?_⟩; repeat (first | exact True.intro | refine ⟨⟨_, _, rfl, rfl⟩, ?_⟩))); (case a3 => first | k_is | rfl | decide +kernel | k_exc | (refine ⟨⟨_, _, rfl, rfl⟩, ?_⟩; repeat (first | exact True.intro | refine ⟨⟨_, _, rfl, rfl⟩, ?_⟩))); (case l3 => first | k_is | rfl | decide +kernel | k_exc | (refine ⟨⟨_, _, rfl, rfl⟩, ?_⟩; repeat (first | exact True.intro | refine ⟨⟨_, _, rfl, rfl⟩, ?_⟩))); (case c3 => first | k_is | rfl | decide +kernel | k_exc | (refine ⟨⟨_, _, rfl, rfl⟩, ?_⟩; repeat (first | exact True.intro | refine ⟨⟨_, _, rfl, rfl⟩, ?_⟩))); (case k3 => first | k_is | rfl | decide +kernel | k_exc | (refine ⟨⟨_, _, rfl, rfl⟩, ?_⟩; repeat (first | exact True.intro | refine ⟨⟨_, _, rfl, rfl⟩, ?_⟩))); (case fi3 => first | k_is | rfl | decide +kernel | k_exc | (refine ⟨⟨_, _, rfl, rfl⟩, ?_⟩; repeat (first | exact True.intro | refine ⟨⟨_, _, rfl, rfl⟩, ?_⟩))); (case fn3 => first | k_is | rfl | decide +kernel | k_exc | (refine ⟨⟨_, _, rfl, rfl⟩, ?_⟩; repeat (first | exact True.intro | refine ⟨⟨_, _, rfl, rfl⟩, ?_⟩))); (case a4 => first | k_is | rfl | decide +kernel | k_exc | (refine ⟨⟨_, _, rfl, rfl⟩, ?_⟩; repeat (first | exact True.intro | refine ⟨⟨_, _, rfl, rfl⟩, ?_⟩))); (case l4 => first | k_is | rfl | decide +kernel | k_exc | (refine ⟨⟨_, _, rfl, rfl⟩, ?_⟩; repeat (first | exact True.intro | refine ⟨⟨_, _, rfl, rfl⟩, ?_⟩))); (case c4 => first | k_is | rfl | decide +kernel | k_exc | (refine ⟨⟨_, _, rfl, rfl⟩, ?_⟩; repeat (first | exact True.intro | refine ⟨⟨_, _, rfl, rfl⟩, ?_⟩))); (case k4 => first | k_is | rfl | decide +kernel | k_exc | (refine ⟨⟨_, _, rfl, rfl⟩, ?_⟩; repeat (first | exact True.intro | refine ⟨⟨_, _, rfl, rfl⟩, ?_⟩))); (case fi4 => first | k_is | rfl | decide +kernel | k_exc | (refine ⟨⟨_, _, rfl, rfl⟩, ?_⟩; repeat (first | exact True.intro | refine ⟨⟨_, _, rfl, rfl⟩, ?_⟩))); (case fn4 => first | k_is | rfl | decide +kernel | k_exc | (refine ⟨⟨_, _, rfl, rfl⟩, ?_⟩; repeat (first | exact True.intro | refine ⟨⟨_, _, rfl, rfl⟩, ?_⟩))); (case a5 => first | k_is | rfl | decide +kernel | k_exc | (refine ⟨⟨_, _, rfl, rfl⟩, ?_⟩; repeat (first | exact True.intro | refine ⟨⟨_, _, rfl, rfl⟩, ?_⟩))); (case l5 => first | k_is | rfl | decide +kernel | k_exc | (refine ⟨⟨_, _, rfl, rfl⟩, ?_⟩; repeat (first | exact True.intro | refine ⟨⟨_, _, rfl, rfl⟩, ?_⟩))); (case c5 => first | k_is | rfl | decide +kernel | k_exc | (refine ⟨⟨_, _, rfl, rfl⟩, ?_⟩; repeat (first | exact True.intro | refine ⟨⟨_, _, rfl, rfl⟩, ?_⟩))); (case k5 => first | k_is | rfl | decide +kernel | k_exc | (refine ⟨⟨_, _, rfl, rfl⟩, ?_⟩; repeat (first | exact True.intro | refine ⟨⟨_, _, rfl, rfl⟩, ?_⟩))); (case fi5 => first | k_is | rfl | decide +kernel | k_exc | (refine ⟨⟨_, _, rfl, rfl⟩, ?_⟩; repeat (first | exact True.intro | refine ⟨⟨_, _, rfl, rfl⟩, ?_⟩))); (case fn5 => first | k_is | rfl | decide +kernel | k_exc | (refine ⟨⟨_, _, rfl, rfl⟩, ?_⟩; repeat (first | exact True.intro | refine ⟨⟨_, _, rfl, rfl⟩, ?_⟩))); (case a6 => first | k_is | rfl | decide +kernel | k_exc | (refine ⟨⟨_, _, rfl, rfl⟩, ?_⟩; repeat (first | exact True.intro | refine ⟨⟨_, _, rfl, rfl⟩, ?_⟩))); (case l6 => first | k_is | rfl | decide +kernel | k_exc | (refine ⟨⟨_, _, rfl, rfl⟩, ?_⟩; repeat (first | exact True.intro | refine ⟨⟨_, _, rfl, rfl⟩, ?_⟩))); (case c6 => first | k_is | rfl | decide +kernel | k_exc | (refine ⟨⟨_, _, rfl, rfl⟩, ?_⟩; repeat (first | exact True.intro | refine ⟨⟨_, _, rfl, rfl⟩, ?_⟩))); (case k6 => first | k_is | rfl | decide +kernel | k_exc | (refine ⟨⟨_, _, rfl, rfl⟩, ?_⟩; repeat (first | exact True.intro | refine ⟨⟨_, _, rfl, rfl⟩, ?_⟩))); (case a7 => first | k_is | rfl | decide +kernel | k_exc | (refine ⟨⟨_, _, rfl, rfl⟩, ?_⟩; repeat (first | exact True.intro | refine ⟨⟨_, _, rfl, rfl⟩, ?_⟩))); (case l7 => first | k_is | rfl | decide +kernel | k_exc | (refine ⟨⟨_, _, rfl, rfl⟩, ?_⟩; repeat (first | exact True.intro | refine ⟨⟨_, _, rfl, rfl⟩, ?_⟩))); (case c7 => first | k_is | rfl | decide +kernel | k_exc | (refine ⟨⟨_, _, rfl, rfl⟩, ?_⟩; repeat (first | exact True.intro | refine ⟨⟨_, _, rfl, rfl⟩, ?_⟩))); (case k7 => first | k_is | rfl | decide +kernel | k_exc | (refine ⟨⟨_, _, rfl, rfl⟩, ?_⟩; repeat (first | exact True.intro | refine ⟨⟨_, _, rfl, rfl⟩, ?_⟩))); (case a8 => first | k_is | rfl | decide +kernel | k_exc | (refine ⟨⟨_, _, rfl, rfl⟩, ?_⟩; repeat (first | exact True.intro | refine ⟨⟨_, _, rfl, rfl⟩, ?_⟩))); (case l8 => first | k_is | rfl | decide +kernel | k_exc | (refine ⟨⟨_, _, rfl, rfl⟩, ?_⟩; repeat (first | exact True.intro | refine ⟨⟨_, _, rfl, rfl⟩, ?_⟩))); (case c8 => first | k_is | rfl | decide +kernel | k_exc | (refine ⟨⟨_, _, rfl, rfl⟩, ?_⟩; repeat (first | exact True.intro | refine ⟨⟨_, _, rfl, rfl⟩, ?_⟩))); (case k8 => first | k_is | rfl | decide +kernel | k_exc | (refine ⟨⟨_, _, rfl, rfl⟩, ?_⟩; repeat (first | exact True.intro | refine ⟨⟨_, _, rfl, rfl⟩, ?_⟩))); (case a9 => first | k_is | rfl | decide +kernel | k_exc | (refine ⟨⟨_, _, rfl, rfl⟩, ?_⟩; repeat (first | exact True.intro | refine ⟨⟨_, _, rfl, rfl⟩, ?_⟩))); (case l9 => first | k_is | rfl | decide +kernel | k_exc | (refine ⟨⟨_, _, rfl, rfl⟩, ?_⟩; repeat (first | exact True.intro | refine ⟨⟨_, _, rfl, rfl⟩, ?_⟩))); (case c9 => first | k_is | rfl | decide +kernel | k_exc | (refine ⟨⟨_, _, rfl, rfl⟩, ?_⟩; repeat (first | exact True.intro | refine ⟨⟨_, _, rfl, rfl⟩, ?_⟩))); (case k9 => first | k_is | rfl | decide +kernel | k_exc | (refine ⟨⟨_, _, rfl, rfl⟩, ?_⟩; repeat (first | exact True.intro | refine ⟨⟨_, _, rfl, rfl⟩, ?_⟩))); (case a10 => first | k_is | rfl | decide +kernel | k_exc | (refine ⟨⟨_, _, rfl, rfl⟩, ?_⟩; repeat (first | exact True.intro | refine ⟨⟨_, _, rfl, rfl⟩, ?_⟩))); (case l10 => first | k_is | rfl | decide +kernel | k_exc | (refine ⟨⟨_, _, rfl, rfl⟩, ?_⟩; repeat (first | exact True.intro | refine ⟨⟨_, _, rfl, rfl⟩, ?_⟩))); (case c10 => first | k_is | rfl | decide +kernel | k_exc | (refine ⟨⟨_, _, rfl, rfl⟩, ?_⟩; repeat (first | exact True.intro | refine ⟨⟨_, _, rfl, rfl⟩, ?_⟩))); (case k10 => first | k_is | rfl | decide +kernel | k_exc | (refine ⟨⟨_, _, rfl, rfl⟩, ?_⟩; repeat (first | exact True.intro | refine ⟨⟨_, _, rfl, rfl⟩, ?_⟩))); (case a11 => first | k_is | rfl | decide +kernel | k_exc | (refine ⟨⟨_, _, rfl, rfl⟩, ?_⟩; repeat (first | exact True.intro | refine ⟨⟨_, _, rfl, rfl⟩, ?_⟩))); (case l11 => first | k_is | rfl | decide +kernel | k_exc | (refine ⟨⟨_, _, rfl, rfl⟩, ?_⟩; repeat (first | exact True.intro | refine ⟨⟨_, _, rfl, rfl⟩, ?_⟩))); (case c11 => first | k_is | rfl | decide +kernel | k_exc | (refine ⟨⟨_, _, rfl, rfl⟩, ?_⟩; repeat (first | exact True.intro | refine ⟨⟨_, _, rfl, rfl⟩, ?_⟩))); (case k11 => first | k_is | rfl | decide +kernel | k_exc | (refine ⟨⟨_, _, rfl, rfl⟩, ?_⟩; repeat (first | exact True.intro | refine ⟨⟨_, _, rfl, rfl⟩, ?_⟩))); (case a12 => first | k_is | rfl | decide +kernel | k_exc | (refine ⟨⟨_, _, rfl, rfl⟩, ?_⟩; repeat (first | exact True.intro | refine ⟨⟨_, _, rfl, rfl⟩, ?_⟩))); (case l12 => first | k_is | rfl | decide +kernel | k_exc | (refine ⟨⟨_, _, rfl, rfl⟩, ?_⟩; repeat (first | exact True.intro | refine ⟨⟨_, _, rfl, rfl⟩, ?_⟩))); (case c12 => first | k_is | rfl | decide +kernel | k_exc | (refine ⟨⟨_, _, rfl, rfl⟩, ?_⟩; repeat (first | exact True.intro | refine ⟨⟨_, _, rfl, rfl⟩, ?_⟩))); (case k12 => first | k_is | rfl | decide +kernel | k_exc | (refine ⟨⟨_, _, rfl, rfl⟩, ?_⟩; repeat (first | exact True.intro | refine ⟨⟨_, _, rfl, rfl⟩, ?_⟩))); (case a13 => first | k_is | rfl | decide +kernel | k_exc | (refine ⟨⟨_, _, rfl, rfl⟩, ?_⟩; repeat (first | exact True.intro | refine ⟨⟨_, _, rfl, rfl⟩, ?_⟩))); (case l13 => first | k_is | rfl | decide +kernel | k_exc | (refine ⟨⟨_, _, rfl, rfl⟩, ?_⟩; repeat (first | exact True.intro | refine ⟨⟨_, _, rfl, rfl⟩, ?_⟩))); (case c13 => first | k_is | rfl | decide +kernel | k_exc | (refine ⟨⟨_, _, rfl, rfl⟩, ?_⟩; repeat (first | exact True.intro | refine ⟨⟨_, _, rfl, rfl⟩, ?_⟩))); (case k13 => first | k_is | rfl | decide +kernel | k_exc | (refine ⟨⟨_, _, rfl, rfl⟩, ?_⟩; repeat (first | exact True.intro | refine ⟨⟨_, _, rfl, rfl⟩, ?_⟩))); (case kd13_sign => first | k_is | rfl | decide +kernel | k_exc | (refine ⟨⟨_, _, rfl, rfl⟩, ?_⟩; repeat (first | exact True.intro | refine ⟨⟨_, _, rfl, rfl⟩, ?_⟩))); (case kd13_group => first | k_is | rfl | decide +kernel | k_exc | (refine ⟨⟨_, _, rfl, rfl⟩, ?_⟩; repeat (first | exact True.intro | refine ⟨⟨_, _, rfl, rfl⟩, ?_⟩))); (case kd13_width => first | k_is | rfl | decide +kernel | k_exc | (refine ⟨⟨_, _, rfl, rfl⟩, ?_⟩; repeat (first | exact True.intro | refine ⟨⟨_, _, rfl, rfl⟩, ?_⟩))); (case a14 => first | k_is | rfl | decide +kernel | k_exc | (refine ⟨⟨_, _, rfl, rfl⟩, ?_⟩; repeat (first | exact True.intro | refine ⟨⟨_, _, rfl, rfl⟩, ?_⟩))); (case l14 => first | k_is | rfl | decide +kernel | k_exc | (refine ⟨⟨_, _, rfl, rfl⟩, ?_⟩; repeat (first | exact True.intro | refine ⟨⟨_, _, rfl, rfl⟩, ?_⟩))); (case c14 => first | k_is | rfl | decide +kernel | k_exc | (refine ⟨⟨_, _, rfl, rfl⟩, ?_⟩; repeat (first | exact True.intro | refine ⟨⟨_, _, rfl, rfl⟩, ?_⟩))); (case k14 => first | k_is | rfl | decide +kernel | k_exc | (refine ⟨⟨_, _, rfl, rfl⟩, ?_⟩; repeat (first | exact True.intro | refine ⟨⟨_, _, rfl, rfl⟩, ?_⟩))); (case a15 => first | k_is | rfl | decide +kernel | k_exc | (refine ⟨⟨_, _, rfl, rfl⟩, ?_⟩; repeat (first | exact True.intro | refine ⟨⟨_, _, rfl, rfl⟩, ?_⟩))); (case l15 => first | k_is | rfl | decide +kernel | k_exc | (refine ⟨⟨_, _, rfl, rfl⟩, ?_⟩; repeat (first | exact True.intro | refine ⟨⟨_, _, rfl, rfl⟩, ?_⟩))); (case c15 => first | k_is | rfl | decide +kernel | k_exc | (refine ⟨⟨_, _, rfl, rfl⟩, ?_⟩; repeat (first | exact True.intro | refine ⟨⟨_, _, rfl, rfl⟩, ?_⟩))); (case k15 => first | k_is | rfl | decide +kernel | k_exc | (refine ⟨⟨_, _, rfl, rfl⟩, ?_⟩; repeat (first | exact True.intro | refine ⟨⟨_, _, rfl, rfl⟩, ?_⟩))); (case a16 => first | k_is | rfl | decide +kernel | k_exc | (refine ⟨⟨_, _, rfl, rfl⟩, ?_⟩; repeat (first | exact True.intro | refine ⟨⟨_, _, rfl, rfl⟩, ?_⟩))); (case l16 => first | k_is | rfl | decide +kernel | k_exc | (refine ⟨⟨_, _, rfl, rfl⟩, ?_⟩; repeat (first | exact True.intro | refine ⟨⟨_, _, rfl, rfl⟩, ?_⟩))); (case c16 => first | k_is | rfl | decide +kernel | k_exc | (refine ⟨⟨_, _, rfl, rfl⟩, ?_⟩; repeat (first | exact True.intro | refine ⟨⟨_, _, rfl, rfl⟩, ?_⟩))); (case k16 => first | k_is | rfl | decide +kernel | k_exc | (refine ⟨⟨_, _, rfl, rfl⟩, ?_⟩; repeat (first | exact True.intro | refine ⟨⟨_, _, rfl, rfl⟩, ?_⟩))); (case a17 => first | k_is | rfl | decide +kernel | k_exc | (refine ⟨⟨_, _, rfl, rfl⟩, ?_⟩; repeat (first | exact True.intro | refine ⟨⟨_, _, rfl, rfl⟩, ?_⟩))); (case l17 => first | k_is | rfl | decide +kernel | k_exc | (refine ⟨⟨_, _, rfl, rfl⟩, ?_⟩; repeat (first | exact True.intro | refine ⟨⟨_, _, rfl, rfl⟩, ?_⟩))); (case c17 => first | k_is | rfl | decide +kernel | k_exc | (refine ⟨⟨_, _, rfl, rfl⟩, ?_⟩; repeat (first | exact True.intro | refine ⟨⟨_, _, rfl, rfl⟩, ?_⟩))); (case k17 => first | k_is | rfl | decide +kernel | k_exc | (refine ⟨⟨_, _, rfl, rfl⟩, ?_⟩; repeat (first | exact True.intro | refine ⟨⟨_, _, rfl, rfl⟩, ?_⟩))); (case g_InvalidText => first | k_is | rfl | decide +kernel | k_exc | (refine ⟨⟨_, _, rfl, rfl⟩, ?_⟩; repeat (first | exact True.intro | refine ⟨⟨_, _, rfl, rfl⟩, ?_⟩))); (case k_InvalidText => first | k_is | rfl | decide +kernel | k_exc | (refine ⟨⟨_, _, rfl, rfl⟩, ?_⟩; repeat (first | exact True.intro | refine ⟨⟨_, _, rfl, rfl⟩, ?_⟩))); (case b_InvalidText => first | k_is | rfl | decide +kernel | k_exc | (refine ⟨⟨_, _, rfl, rfl⟩, ?_⟩; repeat (first | exact True.intro | refine ⟨⟨_, _, rfl, rfl⟩, ?_⟩))); (case t_InvalidText => first | k_is | rfl | decide +kernel | k_exc | (refine ⟨⟨_, _, rfl, rfl⟩, ?_⟩; repeat (first | exact True.intro | refine ⟨⟨_, _, rfl, rfl⟩, ?_⟩))); (case xiC_InvalidText => first | k_is | rfl | decide +kernel | k_exc | (refine ⟨⟨_, _, rfl, rfl⟩, ?_⟩; repeat (first | exact True.intro | refine ⟨⟨_, _, rfl, rfl⟩, ?_⟩))); (case xtI_InvalidText => first | k_is | rfl | decide +kernel | k_exc | (refine ⟨⟨_, _, rfl, rfl⟩, ?_⟩; repeat (first | exact True.intro | refine ⟨⟨_, _, rfl, rfl⟩, ?_⟩))); (case xlI_InvalidText => first | k_is | rfl | decide +kernel | k_exc | (refine ⟨⟨_, _, rfl, rfl⟩, ?_⟩; repeat (first | exact True.intro | refine ⟨⟨_, _, rfl, rfl⟩, ?_⟩))); (case xcI_InvalidText => first | k_is | rfl | decide +kernel | k_exc | (refine ⟨⟨_, _, rfl, rfl⟩, ?_⟩; repeat (first | exact True.intro | refine ⟨⟨_, _, rfl, rfl⟩, ?_⟩))); (case xce_InvalidText => first | k_is | rfl | decide +kernel | k_exc | (refine ⟨⟨_, _, rfl, rfl⟩, ?_⟩; repeat (first | exact True.intro | refine ⟨⟨_, _, rfl, rfl⟩, ?_⟩))); (case xco_InvalidText => first | k_is | rfl | decide +kernel | k_exc | (refine ⟨⟨_, _, rfl, rfl⟩, ?_⟩; repeat (first | exact True.intro | refine ⟨⟨_, _, rfl, rfl⟩, ?_⟩))); (case xvI_InvalidText => first | k_is | rfl | decide +kernel | k_exc | (refine ⟨⟨_, _, rfl, rfl⟩, ?_⟩; repeat (first | exact True.intro | refine ⟨⟨_, _, rfl, rfl⟩, ?_⟩))); (case xpI_InvalidText => first | k_is | rfl | decide +kernel | k_exc | (refine ⟨⟨_, _, rfl, rfl⟩, ?_⟩; repeat (first | exact True.intro | refine ⟨⟨_, _, rfl, rfl⟩, ?_⟩))); (case xox_InvalidText => first | k_is | rfl | decide +kernel | k_exc | (refine ⟨⟨_, _, rfl, rfl⟩, ?_⟩; repeat (first | exact True.intro | refine ⟨⟨_, _, rfl, rfl⟩, ?_⟩))); (case xrv_InvalidText => first | k_is | rfl | decide +kernel | k_exc | (refine ⟨⟨_, _, rfl, rfl⟩, ?_⟩; repeat (first | exact True.intro | refine ⟨⟨_, _, rfl, rfl⟩, ?_⟩))); (case xsa_InvalidText => first | k_is | rfl | decide +kernel | k_exc | (refine ⟨⟨_, _, rfl, rfl⟩, ?_⟩; repeat (first | exact True.intro | refine ⟨⟨_, _, rfl, rfl⟩, ?_⟩))); (case xms_InvalidText => first | k_is | rfl | decide +kernel | k_exc | (refine ⟨⟨_, _, rfl, rfl⟩, ?_⟩; repeat (first | exact True.intro | refine ⟨⟨_, _, rfl, rfl⟩, ?_⟩))); (case xsu_InvalidText => first | k_is | rfl | decide +kernel | k_exc | (refine ⟨⟨_, _, rfl, rfl⟩, ?_⟩; repeat (first | exact True.intro | refine ⟨⟨_, _, rfl, rfl⟩, ?_⟩))); (case xiv_InvalidText => first | k_is | rfl | decide +kernel | k_exc | (refine ⟨⟨_, _, rfl, rfl⟩, ?_⟩; repeat (first | exact True.intro | refine ⟨⟨_, _, rfl, rfl⟩, ?_⟩))); (case xga_InvalidText => first | k_is | rfl | decide +kernel | k_exc | (refine ⟨⟨_, _, rfl, rfl⟩, ?_⟩; repeat (first | exact True.intro | refine ⟨⟨_, _, rfl, rfl⟩, ?_⟩))); (case xgg_InvalidText => first | k_is | rfl | decide +kernel | k_exc | (refine ⟨⟨_, _, rfl, rfl⟩, ?_⟩; repeat (first | exact True.intro | refine ⟨⟨_, _, rfl, rfl⟩, ?_⟩))); (case xhd_InvalidText => first | k_is | rfl | decide +kernel | k_exc | (refine ⟨⟨_, _, rfl, rfl⟩, ?_⟩; repeat (first | exact True.intro | refine ⟨⟨_, _, rfl, rfl⟩, ?_⟩))); (case xno_InvalidText_at => first | k_is | rfl | decide +kernel | k_exc | (refine ⟨⟨_, _, rfl, rfl⟩, ?_⟩; repeat (first | exact True.intro | refine ⟨⟨_, _, rfl, rfl⟩, ?_⟩))); (case xst => first | k_is | rfl | decide +kernel | k_exc | (refine ⟨⟨_, _, rfl, rfl⟩, ?_⟩; repeat (first | exact True.intro | refine ⟨⟨_, _, rfl, rfl⟩, ?_⟩))); (case xsn => first | k_is | rfl | decide +kernel | k_exc | (refine ⟨⟨_, _, rfl, rfl⟩, ?_⟩; repeat (first | exact True.intro | refine ⟨⟨_, _, rfl, rfl⟩, ?_⟩))); (case g_InvalidPlaces => first | k_is | rfl | decide +kernel | k_exc | (refine ⟨⟨_, _, rfl, rfl⟩, ?_⟩; repeat (first | exact True.intro | refine ⟨⟨_, _, rfl, rfl⟩, ?_⟩))); (case x_InvalidPlaces => first | k_is | rfl | decide +kernel | k_exc | (refine ⟨⟨_, _, rfl, rfl⟩, ?_⟩; repeat (first | exact True.intro | refine ⟨⟨_, _, rfl, rfl⟩, ?_⟩))); (case k_InvalidPlaces => first | k_is | rfl | decide +kernel | k_exc | (refine ⟨⟨_, _, rfl, rfl⟩, ?_⟩; repeat (first | exact True.intro | refine ⟨⟨_, _, rfl, rfl⟩, ?_⟩))); (case b_InvalidPlaces => first | k_is | rfl | decide +kernel | k_exc | (refine ⟨⟨_, _, rfl, rfl⟩, ?_⟩; repeat (first | exact True.intro | refine ⟨⟨_, _, rfl, rfl⟩, ?_⟩))); (case t_InvalidPlaces => first | k_is | rfl | decide +kernel | k_exc | (refine ⟨⟨_, _, rfl, rfl⟩, ?_⟩; repeat (first | exact True.intro | refine ⟨⟨_, _, rfl, rfl⟩, ?_⟩))); (case g_InvalidStyle => first | k_is | rfl | decide +kernel | k_exc | (refine ⟨⟨_, _, rfl, rfl⟩, ?_⟩; repeat (first | exact True.intro | refine ⟨⟨_, _, rfl, rfl⟩, ?_⟩))); (case x_InvalidStyle => first | k_is | rfl | decide +kernel | k_exc | (refine ⟨⟨_, _, rfl, rfl⟩, ?_⟩; repeat (first | exact True.intro | refine ⟨⟨_, _, rfl, rfl⟩, ?_⟩))); (case k_InvalidStyle => first | k_is | rfl | decide +kernel | k_exc | (refine ⟨⟨_, _, rfl, rfl⟩, ?_⟩; repeat (first | exact True.intro | refine ⟨⟨_, _, rfl, rfl⟩, ?_⟩))); (case b_InvalidStyle => first | k_is | rfl | decide +kernel | k_exc | (refine ⟨⟨_, _, rfl, rfl⟩, ?_⟩; repeat (first | exact True.intro | refine ⟨⟨_, _, rfl, rfl⟩, ?_⟩))); (case t_InvalidStyle => first | k_is | rfl | decide +kernel | k_exc | (refine ⟨⟨_, _, rfl, rfl⟩, ?_⟩; repeat (first | exact True.intro | refine ⟨⟨_, _, rfl, rfl⟩, ?_⟩))); (case g_InvalidValue => first | k_is | rfl | decide +kernel | k_exc | (refine ⟨⟨_, _, rfl, rfl⟩, ?_⟩; repeat (first | exact True.intro | refine ⟨⟨_, _, rfl, rfl⟩, ?_⟩))); (case x_InvalidValue => first | k_is | rfl | decide +kernel | k_exc | (refine ⟨⟨_, _, rfl, rfl⟩, ?_⟩; repeat (first | exact True.intro | refine ⟨⟨_, _, rfl, rfl⟩, ?_⟩))); (case k_InvalidValue => first | k_is | rfl | decide +kernel | k_exc | (refine ⟨⟨_, _, rfl, rfl⟩, ?_⟩; repeat (first | exact True.intro | refine ⟨⟨_, _, rfl, rfl⟩, ?_⟩))); (case b_InvalidValue => first | k_is | rfl | decide +kernel | k_exc | (refine ⟨⟨_, _, rfl, rfl⟩, ?_⟩; repeat (first | exact True.intro | refine ⟨⟨_, _, rfl, rfl⟩, ?_⟩))); (case t_InvalidValue => first | k_is | rfl | decide +kernel | k_exc | (refine ⟨⟨_, _, rfl, rfl⟩, ?_⟩; repeat (first | exact True.intro | refine ⟨⟨_, _, rfl, rfl⟩, ?_⟩))); (case v_DIGITS => first | k_is | rfl | decide +kernel | k_exc | (refine ⟨⟨_, _, rfl, rfl⟩, ?_⟩; repeat (first | exact True.intro | refine ⟨⟨_, _, rfl, rfl⟩, ?_⟩))); (case v_MOST_PLACES => first | k_is | rfl | decide +kernel | k_exc | (refine ⟨⟨_, _, rfl, rfl⟩, ?_⟩; repeat (first | exact True.intro | refine ⟨⟨_, _, rfl, rfl⟩, ?_⟩))); (case v_MOST_WIDTH => first | k_is | rfl | decide +kernel | k_exc | (refine ⟨⟨_, _, rfl, rfl⟩, ?_⟩; repeat (first | exact True.intro | refine ⟨⟨_, _, rfl, rfl⟩, ?_⟩))); (case z_abs => first | k_is | rfl | decide +kernel | k_exc | (refine ⟨⟨_, _, rfl, rfl⟩, ?_⟩; repeat (first | exact True.intro | refine ⟨⟨_, _, rfl, rfl⟩, ?_⟩))); (case z_bool => first | k_is | rfl | decide +kernel | k_exc | (refine ⟨⟨_, _, rfl, rfl⟩, ?_⟩; repeat (first | exact True.intro | refine ⟨⟨_, _, rfl, rfl⟩, ?_⟩))); (case z_int => first | k_is | rfl | decide +kernel | k_exc | (refine ⟨⟨_, _, rfl, rfl⟩, ?_⟩; repeat (first | exact True.intro | refine ⟨⟨_, _, rfl, rfl⟩, ?_⟩))); (case z_isinstance => first | k_is | rfl | decide +kernel | k_exc | (refine ⟨⟨_, _, rfl, rfl⟩, ?_⟩; repeat (first | exact True.intro | refine ⟨⟨_, _, rfl, rfl⟩, ?_⟩))); (case z_len => first | k_is | rfl | decide +kernel | k_exc | (refine ⟨⟨_, _, rfl, rfl⟩, ?_⟩; repeat (first | exact True.intro | refine ⟨⟨_, _, rfl, rfl⟩, ?_⟩))); (case z_range => first | k_is | rfl | decide +kernel | k_exc | (refine ⟨⟨_, _, rfl, rfl⟩, ?_⟩; repeat (first | exact True.intro | refine ⟨⟨_, _, rfl, rfl⟩, ?_⟩))); (case z_str => first | k_is | rfl | decide +kernel | k_exc | (refine ⟨⟨_, _, rfl, rfl⟩, ?_⟩; repeat (first | exact True.intro | refine ⟨⟨_, _, rfl, rfl⟩, ?_⟩)))
