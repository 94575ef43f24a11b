import PyProof.Rows.All
import Wide.All
import OpenK.AllK
import Wide.FinOn
import HandS.ForMost
import HandS.ForExc
import HandS.Wide
import HandS.IsInst
import HandS.TupAny
import HandS.Deep
import HandS.Small
import HandS.ExcIs
import HandS.SetFor
import PySem.Challenge.RW_handedtext_k14_exchange
set_option Elab.async false
set_option linter.all false
set_option maxRecDepth 100000
set_option maxHeartbeats 2000000
/-! A data layer over the hand layer: what a def does is told over plain data (D), without the heap. -/
namespace Hm
open PySem L2

/-! ### data -/
inductive D where
  | non | bl (b : Bool) | int (i : Int) | str (s : Str)
  | tup (xs : List D) | lst (xs : List D) | dct (kvs : List (Key × D))
  | exc (c : Str) (fs : List (Str × D))
  | src

structure Err where
  c : Str
  fs : List (Str × D)

/-- the written part, the classes of errors by name, the source's two lists -/
structure Gc where
  K : PySem.W.Frag
  ct : Str → Option Addr
  src : Option (Addr × Addr)

def InS (g : Gc) (a : Addr) : Prop := ∃ s c, g.src = some (s, c) ∧ (a = s ∨ a = c)
def WrT (K : PySem.W.Frag) (a : Addr) (xs : List V) : Prop :=
  ∃ (o : Obj) (its : Array Value) (n : Nat), K.lookup a = some o ∧ o.cls = .type "tuple" ∧ o.data = .seq its n ∧ its.size ≤ sizeLine ∧ Vals xs its.toList
/-- an error's object, held -/
def ExO (cls : Value) (a : Addr) (d : Option Addr) : HO := .ext fun h => ∃ (oe : Obj) (vs : Array Value), h.get? a = some oe ∧ Zc cls d oe ∧ oe.data = .fields vs

mutual
inductive Rep (g : Gc) (B : Addr → Prop) (H : Hp) : V → D → Prop
  | non : Rep g B H .non .non
  | bl (b : Bool) : Rep g B H (.bl b) (.bl b)
  | int (i : Int) : Rep g B H (.int i) (.int i)
  | str (s : Str) : Rep g B H (.str s) (.str s)
  | tup {a : Addr} {xs : List V} {ds : List D} : H a = some (.tup xs) → ¬ B a → Reps g B H xs ds → Rep g B H (.ref a) (.tup ds)
  | wtup {a : Addr} {xs : List V} {ds : List D} : WrT g.K a xs → Reps g B H xs ds → Rep g B H (.ref a) (.tup ds)
  | lst {a : Addr} {xs : List V} {ds : List D} : H a = some (.lst xs) → ¬ B a → Reps g B H xs ds → Rep g B H (.ref a) (.lst ds)
  | dct {a : Addr} {kvs : List (Key × V)} {ds : List (Key × D)} : H a = some (.dK kvs) → ¬ B a → RepsK g B H kvs ds → Rep g B H (.ref a) (.dct ds)
  | exc0 {a C : Addr} {c : Str} : g.ct c = some C → H a = some (ExO (.ref C) a none) → ¬ B a → Rep g B H (.ref a) (.exc c [])
  | exc1 {a C d : Addr} {c : Str} {kvs : List (Str × V)} {ds : List (Str × D)} : g.ct c = some C → H a = some (ExO (.ref C) a (some d)) → ¬ B a → H d = some (.xd kvs) → ¬ B d → RepsF g B H kvs ds → ds ≠ [] → Rep g B H (.ref a) (.exc c ds)
  | src {s c : Addr} : g.src = some (s, c) → Rep g B H (.ref s) .src
inductive Reps (g : Gc) (B : Addr → Prop) (H : Hp) : List V → List D → Prop
  | nil : Reps g B H [] []
  | cons {v : V} {vs : List V} {d : D} {ds : List D} : Rep g B H v d → Reps g B H vs ds → Reps g B H (v :: vs) (d :: ds)
inductive RepsK (g : Gc) (B : Addr → Prop) (H : Hp) : List (Key × V) → List (Key × D) → Prop
  | nil : RepsK g B H [] []
  | cons {k : Key} {v : V} {vs : List (Key × V)} {d : D} {ds : List (Key × D)} : Rep g B H v d → RepsK g B H vs ds → RepsK g B H ((k, v) :: vs) ((k, d) :: ds)
inductive RepsF (g : Gc) (B : Addr → Prop) (H : Hp) : List (Str × V) → List (Str × D) → Prop
  | nil : RepsF g B H [] []
  | cons {k : Str} {v : V} {vs : List (Str × V)} {d : D} {ds : List (Str × D)} : Rep g B H v d → RepsF g B H vs ds → RepsF g B H ((k, v) :: vs) ((k, d) :: ds)
end

section
variable {g : Gc} {B B' : Addr → Prop} {H H' : Hp}
/- what a datum leans on stands, and is not among B' -/
mutual
theorem Rep.move (k : ∀ a o, H a = some o → ¬ B a → H' a = some o ∧ ¬ B' a) : ∀ {v : V} {d : D}, Rep g B H v d → Rep g B' H' v d
  | _, _, .non => .non
  | _, _, .bl b => .bl b
  | _, _, .int i => .int i
  | _, _, .str s => .str s
  | _, _, .tup h n r => .tup (k _ _ h n).1 (k _ _ h n).2 (Reps.move k r)
  | _, _, .wtup h r => .wtup h (Reps.move k r)
  | _, _, .lst h n r => .lst (k _ _ h n).1 (k _ _ h n).2 (Reps.move k r)
  | _, _, .dct h n r => .dct (k _ _ h n).1 (k _ _ h n).2 (RepsK.move k r)
  | _, _, .exc0 e h n => .exc0 e (k _ _ h n).1 (k _ _ h n).2
  | _, _, .exc1 e h n h2 n2 r q => .exc1 e (k _ _ h n).1 (k _ _ h n).2 (k _ _ h2 n2).1 (k _ _ h2 n2).2 (RepsF.move k r) q
  | _, _, .src e => .src e
theorem Reps.move (k : ∀ a o, H a = some o → ¬ B a → H' a = some o ∧ ¬ B' a) : ∀ {vs : List V} {ds : List D}, Reps g B H vs ds → Reps g B' H' vs ds
  | _, _, .nil => .nil
  | _, _, .cons r t => .cons (Rep.move k r) (Reps.move k t)
theorem RepsK.move (k : ∀ a o, H a = some o → ¬ B a → H' a = some o ∧ ¬ B' a) : ∀ {vs : List (Key × V)} {ds : List (Key × D)}, RepsK g B H vs ds → RepsK g B' H' vs ds
  | _, _, .nil => .nil
  | _, _, .cons r t => .cons (Rep.move k r) (RepsK.move k t)
theorem RepsF.move (k : ∀ a o, H a = some o → ¬ B a → H' a = some o ∧ ¬ B' a) : ∀ {vs : List (Str × V)} {ds : List (Str × D)}, RepsF g B H vs ds → RepsF g B' H' vs ds
  | _, _, .nil => .nil
  | _, _, .cons r t => .cons (Rep.move k r) (RepsF.move k t)
end
end

section
variable {g : Gc} {B : Addr → Prop} {H : Hp}
theorem Reps.length : ∀ {vs : List V} {ds : List D}, Reps g B H vs ds → vs.length = ds.length
  | _, _, .nil => rfl
  | _, _, .cons _ t => congrArg (· + 1) (Reps.length t)
theorem Reps.get : ∀ {vs : List V} {ds : List D} {i : Nat} {d : D}, Reps g B H vs ds → ds[i]? = some d → ∃ v, vs[i]? = some v ∧ Rep g B H v d
  | _, _, _, _, .nil, e => by simp at e
  | _, _, 0, _, .cons r _, e => by simp at e; subst e; exact ⟨_, rfl, r⟩
  | _, _, i + 1, d, .cons _ t, e => by
    obtain ⟨v, h1, h2⟩ := Reps.get (i := i) (d := d) t (by simpa using e)
    exact ⟨v, by simpa using h1, h2⟩
theorem Reps.append : ∀ {vs us : List V} {ds es : List D}, Reps g B H vs ds → Reps g B H us es → Reps g B H (vs ++ us) (ds ++ es)
  | _, _, _, _, .nil, s => s
  | _, _, _, _, .cons r t, s => .cons r (Reps.append t s)
theorem Reps.take : ∀ {vs : List V} {ds : List D} (n : Nat), Reps g B H vs ds → Reps g B H (vs.take n) (ds.take n)
  | _, _, 0, _ => .nil
  | _, _, _ + 1, .nil => .nil
  | _, _, n + 1, .cons r t => .cons r (Reps.take n t)
theorem Reps.drop : ∀ {vs : List V} {ds : List D} (n : Nat), Reps g B H vs ds → Reps g B H (vs.drop n) (ds.drop n)
  | _, _, 0, r => r
  | _, _, _ + 1, .nil => .nil
  | _, _, n + 1, .cons _ t => Reps.drop n t
theorem Reps.set {v : V} {d : D} (r : Rep g B H v d) : ∀ {vs : List V} {ds : List D} (i : Nat), Reps g B H vs ds → Reps g B H (vs.set i v) (ds.set i d)
  | _, _, _, .nil => .nil
  | _, _, 0, .cons _ t => .cons r t
  | _, _, i + 1, .cons q t => .cons q (Reps.set r i t)
theorem Reps.reverse : ∀ {vs : List V} {ds : List D}, Reps g B H vs ds → Reps g B H vs.reverse ds.reverse
  | _, _, .nil => .nil
  | _, _, .cons r t => by
    rw [List.reverse_cons, List.reverse_cons]
    exact (Reps.reverse t).append (.cons r .nil)
theorem Reps.replicate {v : V} {d : D} (r : Rep g B H v d) : ∀ n, Reps g B H (List.replicate n v) (List.replicate n d)
  | 0 => .nil
  | n + 1 => .cons r (Reps.replicate r n)
theorem Reps.ints : ∀ (ns : List Int), Reps g B H (ns.map V.int) (ns.map D.int)
  | [] => .nil
  | _ :: r => .cons (.int _) (Reps.ints r)
end

/-! ### the source: its two lists, with room for so many draws -/
def srcLine : Int := 2 ^ 20000
def SrcAt (H : Hp) (s c : Addr) (n : Nat) : Prop := ∃ (cells : List Int) (turn : Int), s ≠ c ∧ H s = some (.lst [.ref c, .int turn]) ∧ H c = some (.lst (cells.map V.int)) ∧
  cells ≠ [] ∧ cells.length ≤ 63 ∧ 0 ≤ turn ∧ turn + (n : Int) ≤ srcLine
def SrcOk (g : Gc) (H : Hp) (n : Nat) : Prop := ∀ s c, g.src = some (s, c) → SrcAt H s c n
theorem SrcOk.mono {g : Gc} {H : Hp} {n m : Nat} (h : SrcOk g H n) (l : m ≤ n) : SrcOk g H m := fun s c e => by
  obtain ⟨cells, turn, h0, h1, h2, h3, h4, h5, h6⟩ := h s c e
  exact ⟨cells, turn, h0, h1, h2, h3, h4, h5, by omega⟩
/-- all that is tracked stands, but the source -/
def Kp (g : Gc) (H H' : Hp) : Prop := ∀ a o, ¬ InS g a → H a = some o → H' a = some o
def Gw (H H' : Hp) : Prop := ∀ a o, H a = some o → H' a = some o
theorem Kp.refl {g : Gc} (H : Hp) : Kp g H H := fun _ _ _ h => h
theorem Kp.trans {g : Gc} {H H1 H2 : Hp} (a : Kp g H H1) (b : Kp g H1 H2) : Kp g H H2 := fun x o n h => b x o n (a x o n h)
theorem Gw.refl (H : Hp) : Gw H H := fun _ _ h => h
theorem Gw.trans {H H1 H2 : Hp} (a : Gw H H1) (b : Gw H1 H2) : Gw H H2 := fun x o h => b x o (a x o h)
theorem Gw.kp {g : Gc} {H H' : Hp} (a : Gw H H') : Kp g H H' := fun x o _ h => a x o h
theorem Gw.new {H : Hp} {p : Addr} {o : HO} (h : H p = none) : Gw H (upd H p o) := fun a u e => by
  rw [upd_ne (ne_of_none e h)]
  exact e
theorem Gw.src {g : Gc} {H H' : Hp} {n : Nat} (a : Gw H H') (h : SrcOk g H n) : SrcOk g H' n := fun s c e => by
  obtain ⟨cells, turn, h0, h1, h2, h3, h4, h5, h6⟩ := h s c e
  exact ⟨cells, turn, h0, a _ _ h1, a _ _ h2, h3, h4, h5, h6⟩

/-! ### the slots -/
inductive Sl where
  | un | dat (d : D) | own (ds : List D) | ownd (kvs : List (Key × D))
def Sl.isOwn : Sl → Bool
  | .own _ => true
  | .ownd _ => true
  | _ => false
abbrev Rho := List Sl

/-- a frame: what its callers keep for themselves, the heap at its entry -/
structure FrC where
  g : Gc
  B0 : Addr → Prop
  H0 : Hp
structure Okk (f : FrC) (B : Addr → Prop) (H : Hp) (n : Nat) : Prop where
  s0 : ∀ a, InS f.g a → f.B0 a
  d0 : ∀ a, f.B0 a → f.H0 a ≠ none
  b0 : ∀ a, f.B0 a → B a
  ow : ∀ a, B a → f.B0 a ∨ f.H0 a = none
  dom : ∀ a, B a → H a ≠ none
  keep : Kp f.g f.H0 H
  src : SrcOk f.g H n
def SlR (f : FrC) (B : Addr → Prop) (H : Hp) (o : Option V) : Sl → Prop
  | .un => True
  | .dat d => ∃ v, o = some v ∧ Rep f.g B H v d
  | .own ds => ∃ p vs, o = some (.ref p) ∧ B p ∧ f.H0 p = none ∧ H p = some (.lst vs) ∧ Reps f.g B H vs ds
  | .ownd kvs => ∃ p vs, o = some (.ref p) ∧ B p ∧ f.H0 p = none ∧ H p = some (.dK vs) ∧ RepsK f.g B H vs kvs
structure Rel (f : FrC) (B : Addr → Prop) (σ : St) (H : Hp) (ρ : Rho) (n : Nat) : Prop where
  ok : Okk f B H n
  len : σ.length = ρ.length
  sl : ∀ (i : Nat) x o, ρ[i]? = some x → σ[i]? = some o → SlR f B H o x
  inj : ∀ (i j : Nat) (p : Addr) x y, i ≠ j → ρ[i]? = some x → x.isOwn = true → ρ[j]? = some y → y.isOwn = true → σ[i]? = some (some (.ref p)) → σ[j]? ≠ some (some (.ref p))

section
variable {f : FrC} {B : Addr → Prop} {σ : St} {H H' : Hp} {ρ : Rho} {n m : Nat}
theorem Okk.inB (k : Okk f B H n) {a : Addr} (h : InS f.g a) : B a := k.b0 a (k.s0 a h)
theorem Okk.nS (k : Okk f B H n) {p : Addr} (h : f.H0 p = none) : ¬ InS f.g p := fun z => k.d0 p (k.s0 p z) h
theorem Rep.kp {v : V} {d : D} (k : Okk f B H n) (e : Kp f.g H H') (r : Rep f.g B H v d) : Rep f.g B H' v d :=
  r.move fun a o h nb => ⟨e a o (fun z => nb (k.inB z)) h, nb⟩
theorem Reps.kp {v : List V} {d : List D} (k : Okk f B H n) (e : Kp f.g H H') (r : Reps f.g B H v d) : Reps f.g B H' v d :=
  r.move fun a o h nb => ⟨e a o (fun z => nb (k.inB z)) h, nb⟩
theorem RepsK.kp {v : List (Key × V)} {d : List (Key × D)} (k : Okk f B H n) (e : Kp f.g H H') (r : RepsK f.g B H v d) : RepsK f.g B H' v d :=
  r.move fun a o h nb => ⟨e a o (fun z => nb (k.inB z)) h, nb⟩
theorem Okk.kp (k : Okk f B H n) (e : Kp f.g H H') (s : SrcOk f.g H' m) : Okk f B H' m :=
  ⟨k.s0, k.d0, k.b0, k.ow, (fun a ha => by
    by_cases hs : InS f.g a
    · obtain ⟨s1, c1, e1, hac⟩ := hs
      obtain ⟨_, _, _, h1, h2, _⟩ := s s1 c1 e1
      rcases hac with rfl | rfl
      · rw [h1]; exact fun z => nomatch z
      · rw [h2]; exact fun z => nomatch z
    · have q := k.dom a ha
      cases z : H a with
      | none => exact absurd z q
      | some o => rw [e a o hs z]; exact (fun z => nomatch z)), k.keep.trans e, s⟩
/-- behind an expression: the slots stand as they stood -/
theorem Rel.kp (R : Rel f B σ H ρ n) (e : Kp f.g H H') (s : SrcOk f.g H' m) : Rel f B σ H' ρ m :=
  ⟨R.ok.kp e s, R.len, fun i x o h1 h2 => by
    have q := R.sl i x o h1 h2
    cases x with
    | un => trivial
    | dat d =>
      obtain ⟨v, e1, r⟩ := q
      exact ⟨v, e1, r.kp R.ok e⟩
    | own ds =>
      obtain ⟨p, vs, e1, b, h0, hp, r⟩ := q
      exact ⟨p, vs, e1, b, h0, e p _ (R.ok.nS h0) hp, r.kp R.ok e⟩
    | ownd ds =>
      obtain ⟨p, vs, e1, b, h0, hp, r⟩ := q
      exact ⟨p, vs, e1, b, h0, e p _ (R.ok.nS h0) hp, r.kp R.ok e⟩, R.inj⟩
theorem Rel.mono (R : Rel f B σ H ρ n) (l : m ≤ n) : Rel f B σ H ρ m := R.kp (Kp.refl H) (R.ok.src.mono l)
theorem set_cases {α : Type} {l : List α} {i j : Nat} {x y : α} (h : (l.set i x)[j]? = some y) : (i = j ∧ y = x ∧ i < l.length) ∨ (i ≠ j ∧ l[j]? = some y) := by
  by_cases e : i = j
  · subst e
    by_cases hl : i < l.length
    · rw [List.getElem?_set_self hl] at h
      exact .inl ⟨rfl, (Option.some.inj h).symm, hl⟩
    · rw [List.getElem?_eq_none (by simpa using hl)] at h
      cases h
  · rw [List.getElem?_set_ne e] at h
    exact .inr ⟨e, h⟩
/-- a name gets a datum -/
theorem Rel.set {i : Nat} {v : V} {d : D} (R : Rel f B σ H ρ n) (r : Rep f.g B H v d) : Rel f B (σ.set i (some v)) H (ρ.set i (.dat d)) n :=
  ⟨R.ok, by rw [List.length_set, List.length_set, R.len], fun j x o h1 h2 => by
    rcases set_cases h1 with ⟨e1, e2, _⟩ | ⟨e1, h1⟩
    · rcases set_cases h2 with ⟨_, e4, _⟩ | ⟨e3, _⟩
      · subst e2; subst e4
        exact ⟨v, rfl, r⟩
      · exact absurd e1 e3
    · rcases set_cases h2 with ⟨e3, _⟩ | ⟨_, h2⟩
      · exact absurd e3 e1
      · exact R.sl j x o h1 h2, fun a b p x y ne h1 o1 h2 o2 s1 => by
    rcases set_cases h1 with ⟨e1, e2, _⟩ | ⟨e1, h1⟩
    · subst e2; cases o1
    · rcases set_cases h2 with ⟨e3, e4, _⟩ | ⟨e3, h2⟩
      · subst e4; cases o2
      · rw [List.getElem?_set_ne e1] at s1
        rw [List.getElem?_set_ne e3]
        exact R.inj a b p x y ne h1 o1 h2 o2 s1⟩
end

/-! ### readings over data -/
abbrev DK := D → Prop
abbrev XKD := Err → Prop
abbrev ME := Rho → DK → XKD → Prop
abbrev MT := Rho → (Bool → Prop) → XKD → Prop
abbrev MA := Rho → (List D → Prop) → XKD → Prop
abbrev MF := List D → DK → XKD → Prop
structure DEnds where
  nx : Rho → Prop
  rt : DK
  bk : Rho → Prop
  ct : Rho → Prop
  ex : Rho → Err → Prop
abbrev MS := Rho → DEnds → Prop

/-- an error on its way -/
def ErrAt (g : Gc) (B : Addr → Prop) (H : Hp) (cls : Value) (dd : Option Addr) (x : Err) : Prop :=
  ∃ C, g.ct x.c = some C ∧ cls = .ref C ∧ ((dd = none ∧ x.fs = []) ∨ ∃ d kvs, dd = some d ∧ H d = some (.xd kvs) ∧ ¬ B d ∧ RepsF g B H kvs x.fs ∧ x.fs ≠ [])

def RD (f : FrC) (W : WX) (c : Nat) (m : ME) : TE := fun σ H Q => ∃ (B : Addr → Prop) (n : Nat) (ρ : Rho) (Q0 : DK) (W0 : XKD), Rel f B σ H ρ (n + c) ∧ m ρ Q0 W0 ∧
  (∀ d v H', Q0 d → Kp f.g H H' → SrcOk f.g H' n → Rep f.g B H' v d → Q v H') ∧ (∀ x cls dd H', W0 x → Kp f.g H H' → SrcOk f.g H' n → ErrAt f.g B H' cls dd x → W cls dd σ H')
def RT (f : FrC) (W : WX) (c : Nat) (m : MT) : TT := fun σ H Q => ∃ (B : Addr → Prop) (n : Nat) (ρ : Rho) (Q0 : Bool → Prop) (W0 : XKD), Rel f B σ H ρ (n + c) ∧ m ρ Q0 W0 ∧
  (∀ b H', Q0 b → Kp f.g H H' → SrcOk f.g H' n → Q b H') ∧ (∀ x cls dd H', W0 x → Kp f.g H H' → SrcOk f.g H' n → ErrAt f.g B H' cls dd x → W cls dd σ H')
def RA (f : FrC) (W : WX) (c : Nat) (m : MA) : TA := fun σ H Q => ∃ (B : Addr → Prop) (n : Nat) (ρ : Rho) (Q0 : List D → Prop) (W0 : XKD), Rel f B σ H ρ (n + c) ∧ m ρ Q0 W0 ∧
  (∀ ds vs H', Q0 ds → Kp f.g H H' → SrcOk f.g H' n → Reps f.g B H' vs ds → Q vs H') ∧ (∀ x cls dd H', W0 x → Kp f.g H H' → SrcOk f.g H' n → ErrAt f.g B H' cls dd x → W cls dd σ H')
/-- a new list -/
def RL (f : FrC) (W : WX) (c : Nat) (m : MA) : TE := fun σ H Q => ∃ (B : Addr → Prop) (n : Nat) (ρ : Rho) (Q0 : List D → Prop) (W0 : XKD), Rel f B σ H ρ (n + c) ∧ m ρ Q0 W0 ∧
  (∀ ds p vs H', Q0 ds → Kp f.g H H' → SrcOk f.g H' n → H p = none → H' p = some (.lst vs) → Reps f.g (fun a => B a ∨ a = p) H' vs ds → Q (.ref p) H') ∧ (∀ x cls dd H', W0 x → Kp f.g H H' → SrcOk f.g H' n → ErrAt f.g B H' cls dd x → W cls dd σ H')
def RS (f : FrC) (W : WX) (c : Nat) (m : MS) : TS := fun D σ H => ∃ (B : Addr → Prop) (n : Nat) (ρ : Rho) (E : DEnds), Rel f B σ H ρ (n + c) ∧ m ρ E ∧
  (∀ B' σ' H' ρ', E.nx ρ' → Rel f B' σ' H' ρ' n → D.nx σ' H') ∧
  (∀ d v H', E.rt d → Kp f.g f.H0 H' → SrcOk f.g H' n → Rep f.g f.B0 H' v d → D.rt v H') ∧
  (∀ B' σ' H' ρ', E.bk ρ' → Rel f B' σ' H' ρ' n → D.bk σ' H') ∧
  (∀ B' σ' H' ρ', E.ct ρ' → Rel f B' σ' H' ρ' n → D.ct σ' H') ∧
  (∀ B' x cls dd σ' H' ρ', E.ex ρ' x → Rel f B' σ' H' ρ' n → ErrAt f.g B' H' cls dd x → W cls dd σ' H')

abbrev CE (f : FrC) (X : Cx) (W : WX) (c : Nat) (e : Expr) (m : ME) : Prop := PE X e (RD f W c m)
abbrev CT (f : FrC) (X : Cx) (W : WX) (c : Nat) (e : Expr) (m : MT) : Prop := PT X e (RT f W c m)
abbrev CA (f : FrC) (X : Cx) (W : WX) (c : Nat) (es : List Expr) (m : MA) : Prop := PA X es (RA f W c m)
abbrev CL (f : FrC) (X : Cx) (W : WX) (c : Nat) (e : Expr) (m : MA) : Prop := PE X e (RL f W c m)
abbrev CS (f : FrC) (X : Cx) (W : WX) (c : Nat) (s : Stmt) (m : MS) : Prop := PS X s (RS f W c m)
abbrev CB (f : FrC) (X : Cx) (W : WX) (c : Nat) (s : List Stmt) (m : MS) : Prop := PSs X s (RS f W c m)

theorem PE.imp {X : Cx} {e : Expr} {t t' : TE} (h : PE X e t) (k : ∀ σ H Q, t' σ H Q → t σ H Q) : PE X e t' := ⟨fun pins s σ H Q I q => h.run pins s σ H Q I (k σ H Q q)⟩
theorem PT.imp {X : Cx} {e : Expr} {t t' : TT} (h : PT X e t) (k : ∀ σ H Q, t' σ H Q → t σ H Q) : PT X e t' := ⟨fun pins s σ H Q I q => h.run pins s σ H Q I (k σ H Q q)⟩
theorem PA.imp {X : Cx} {e : List Expr} {t t' : TA} (h : PA X e t) (k : ∀ σ H Q, t' σ H Q → t σ H Q) : PA X e t' := ⟨fun pos pins s σ H Q I q => h.run pos pins s σ H Q I (k σ H Q q)⟩
theorem PS.imp {X : Cx} {e : Stmt} {t t' : TS} (h : PS X e t) (k : ∀ D σ H, t' D σ H → t D σ H) : PS X e t' := ⟨fun pins s σ H D I q => h.run pins s σ H D I (k D σ H q)⟩
theorem PSs.imp {X : Cx} {e : List Stmt} {t t' : TS} (h : PSs X e t) (k : ∀ D σ H, t' D σ H → t D σ H) : PSs X e t' := ⟨fun pins s σ H D I q => h.run pins s σ H D I (k D σ H q)⟩
end Hm
set_option Elab.async false
set_option linter.all false
set_option maxRecDepth 100000
set_option maxHeartbeats 2000000
namespace Hm
open PySem L2

/-! ### expressions: the parts -/
section
variable {f : FrC} {W : WX} {B : Addr → Prop} {σ : St} {H : Hp} {ρ : Rho} {m ca : Nat}
theorem rd_i {ma : ME} {Q0 : DK} {W0 : XKD} {Q : VK} (R : Rel f B σ H ρ (m + ca)) (h : ma ρ Q0 W0) (hq : ∀ x v H1, Q0 x → Kp f.g H H1 → Rel f B σ H1 ρ m → Rep f.g B H1 v x → Q v H1)
    (hw : ∀ x cls dd H', W0 x → Kp f.g H H' → SrcOk f.g H' m → ErrAt f.g B H' cls dd x → W cls dd σ H') : RD f W ca ma σ H Q := ⟨B, m, ρ, Q0, W0, R, h, fun d v H' q e s r => hq d v H' q e (R.kp e s) r, hw⟩
theorem rt_i {ma : MT} {Q0 : Bool → Prop} {W0 : XKD} {Q : Bool → Hp → Prop} (R : Rel f B σ H ρ (m + ca)) (h : ma ρ Q0 W0) (hq : ∀ x H1, Q0 x → Kp f.g H H1 → Rel f B σ H1 ρ m → Q x H1)
    (hw : ∀ x cls dd H', W0 x → Kp f.g H H' → SrcOk f.g H' m → ErrAt f.g B H' cls dd x → W cls dd σ H') : RT f W ca ma σ H Q := ⟨B, m, ρ, Q0, W0, R, h, fun d H' q e s => hq d H' q e (R.kp e s), hw⟩
theorem ra_i {ma : MA} {Q0 : List D → Prop} {W0 : XKD} {Q : List V → Hp → Prop} (R : Rel f B σ H ρ (m + ca)) (h : ma ρ Q0 W0) (hq : ∀ x v H1, Q0 x → Kp f.g H H1 → Rel f B σ H1 ρ m → Reps f.g B H1 v x → Q v H1)
    (hw : ∀ x cls dd H', W0 x → Kp f.g H H' → SrcOk f.g H' m → ErrAt f.g B H' cls dd x → W cls dd σ H') : RA f W ca ma σ H Q := ⟨B, m, ρ, Q0, W0, R, h, fun d v H' q e s r => hq d v H' q e (R.kp e s) r, hw⟩
end

/-! ### what is made of data -/
/-! what a datum is taken for -/
def asB : D → (Bool → Prop) → Prop
  | .bl b, Q => Q b
  | _, _ => False
def tru : D → (Bool → Prop) → Prop
  | .non, Q => Q false
  | .bl b, Q => Q b
  | .int i, Q => Q (i != 0)
  | .str s, Q => s.length ≤ sizeLine ∧ Q ((s.length : Int) != 0)
  | .tup xs, Q => Q (!xs.isEmpty)
  | .lst xs, Q => Q (!xs.isEmpty)
  | .dct kvs, Q => Q (!kvs.isEmpty)
  | _, _ => False
def asI : D → (Int → Prop) → Prop
  | .int i, Q => Q i
  | _, _ => False
def asL : D → (List D → Prop) → Prop
  | .lst xs, Q => Q xs
  | _, _ => False
def asT : D → (List D → Prop) → Prop
  | .tup xs, Q => Q xs
  | _, _ => False
def datOf : Option Sl → DK → Prop
  | some (.dat d), Q => Q d
  | _, _ => False
def mVar (i : Nat) : ME := fun ρ Q _ => datOf ρ[i]? Q
def mC (d : D) : ME := fun _ Q _ => Q d
def mOp (op : D → D → DK → Prop) (a b : ME) : ME := fun ρ Q W => a ρ (fun x => b ρ (fun y => op x y Q) W) W
def mUn (op : D → DK → Prop) (a : ME) : ME := fun ρ Q W => a ρ (fun x => op x Q) W
def mNil : MA := fun _ Q _ => Q []
def mCons (a : ME) (r : MA) : MA := fun ρ Q W => a ρ (fun x => r ρ (fun xs => Q (x :: xs)) W) W
def mTup (a : MA) : ME := fun ρ Q W => a ρ (fun xs => xs.length ≤ sizeLine ∧ Q (.tup xs)) W
def mLst (a : MA) : MA := fun ρ Q W => a ρ (fun xs => xs.length ≤ sizeLine ∧ Q xs) W
def mFrz (a : MA) : ME := fun ρ Q W => a ρ (fun xs => Q (.lst xs)) W
def mCall (fn : MF) (a : MA) : ME := fun ρ Q W => a ρ (fun xs => fn xs Q W) W
def mBlt (fn : List D → DK → Prop) (a : MA) : ME := fun ρ Q W => a ρ (fun xs => fn xs Q) W
def mTest (a : ME) : MT := fun ρ Q W => a ρ (fun x => asB x Q) W
def mTruth (a : ME) : MT := fun ρ Q W => a ρ (fun x => tru x Q) W
def mAnd (a b : MT) : MT := fun ρ Q W => a ρ (fun x => if x = true then b ρ Q W else Q false) W
def mOr (a b : MT) : MT := fun ρ Q W => a ρ (fun x => if x = true then Q true else b ρ Q W) W
def mNot (a : MT) : MT := fun ρ Q W => a ρ (fun x => Q (!x)) W
def mAndV (a b : ME) : ME := fun ρ Q W => a ρ (fun x => asB x fun c => if c = true then b ρ Q W else Q (.bl false)) W
def mOrV (a b : ME) : ME := fun ρ Q W => a ρ (fun x => asB x fun c => if c = true then Q (.bl true) else b ρ Q W) W
def mNotV (a : ME) : ME := fun ρ Q W => a ρ (fun x => asB x fun c => Q (.bl (!c))) W
def mIf (c : MT) (a b : ME) : ME := fun ρ Q W => c ρ (fun x => if x = true then a ρ Q W else b ρ Q W) W
def mChain (op op' : D → D → DK → Prop) (a b c : ME) : ME := fun ρ Q W => a ρ (fun x => b ρ (fun y => op x y (fun z => asB z fun k => if k = true then c ρ (fun w => op' y w (fun z' => asB z' fun k' => Q (.bl k'))) W else Q (.bl false))) W) W

section
variable {f : FrC} {X : Cx} {W : WX} {ca cb cc : Nat} {a b c : Expr} {ma mb mc : ME} {ta tb : MT}

theorem ce_var (i : Nat) {x : Str} {pos : Pos} (hN : X.N[i]? = some x := by rfl) (hv : Vis X.env.scope x := by first | exact Or.inl rfl | exact Or.inr (Or.inl rfl) | exact Or.inr (Or.inr rfl)) (hd : (x == ("__debug__" : Str)) = false := by decide)
    (hcd : (x == ("__classdict__" : Str)) = false := by decide) : CE f X W 0 (.Name x pos) (mVar i) := PE.imp (pe_var hN hv hd hcd) fun σ H Q h => by
  obtain ⟨B, n, ρ, Q0, W0, R, hm, hq, _⟩ := h
  unfold mVar at hm
  cases e : ρ[i]? with
  | none => rw [e] at hm; exact hm.elim
  | some x =>
    rw [e] at hm
    have hl : i < σ.length := by rw [R.len]; exact (List.getElem?_eq_some_iff.mp e).1
    have es : σ[i]? = some σ[i] := List.getElem?_eq_getElem hl
    have q := R.sl i x _ e es
    cases x with
    | dat d =>
      obtain ⟨v, e1, r⟩ := q
      exact ⟨v, by rw [es, e1], hq d v H hm (Kp.refl H) R.ok.src r⟩
    | un => exact hm.elim
    | own _ => exact hm.elim
    | ownd _ => exact hm.elim
theorem ce_tC {v : V} {d : D} {e : Expr} (h : PE X e (tC v)) (r : ∀ B H, Rep f.g B H v d) : CE f X W 0 e (mC d) := PE.imp h fun σ H Q h => by
  obtain ⟨B, n, ρ, Q0, W0, R, hm, hq, _⟩ := h
  exact hq d v H hm (Kp.refl H) R.ok.src (r B H)
theorem ce_int {i j pos} : CE f X W 0 (.Constant (.int i) j pos) (mC (.int i)) := ce_tC pe_int fun _ _ => .int i
theorem ce_bl {i j pos} : CE f X W 0 (.Constant (.bool i) j pos) (mC (.bl i)) := ce_tC pe_bl fun _ _ => .bl i
theorem ce_non {j pos} : CE f X W 0 (.Constant .none j pos) (mC .non) := ce_tC pe_non fun _ _ => .non
theorem ce_str {x j pos} : CE f X W 0 (.Constant (.str x) j pos) (mC (.str x)) := ce_tC pe_str fun _ _ => .str x

/-- a two-place operation: over values r, over data op -/
def OpD (K : PySem.W.Frag) (r : R2) (op : D → D → DK → Prop) : Prop := ∀ (g : Gc) (B : Addr → Prop) (H : Hp) (vx vy : V) (x y : D) (Q0 : DK) (Q : VK), g.K = K → (∀ a, B a → H a ≠ none) → Rep g B H vx x → Rep g B H vy y → op x y Q0 →
  (∀ d v H', Q0 d → Gw H H' → Rep g B H' v d → Q v H') → r vx vy H Q
def UnD (K : PySem.W.Frag) (r : V → Hp → VK → Prop) (op : D → DK → Prop) : Prop := ∀ (g : Gc) (B : Addr → Prop) (H : Hp) (vx : V) (x : D) (Q0 : DK) (Q : VK), g.K = K → (∀ a, B a → H a ≠ none) → Rep g B H vx x → op x Q0 →
  (∀ d v H', Q0 d → Gw H H' → Rep g B H' v d → Q v H') → r vx H Q
def CallD (K : PySem.W.Frag) (r : List V → Hp → VK → Prop) (op : List D → DK → Prop) : Prop := ∀ (g : Gc) (B : Addr → Prop) (H : Hp) (vs : List V) (xs : List D) (Q0 : DK) (Q : VK), g.K = K → (∀ a, B a → H a ≠ none) → Reps g B H vs xs → op xs Q0 →
  (∀ d v H', Q0 d → Gw H H' → Rep g B H' v d → Q v H') → r vs H Q
theorem OpR.or {fn : Value → Value → Sem Value} {r r' : R2} (h : OpR X fn r) (h' : OpR X fn r') : OpR X fn (fun x y H Q => r x y H Q ∨ r' x y H Q) := by
  intro pins s σ H x y v u Q I rx ry q
  rcases q with q | q
  · exact h pins s σ H x y v u Q I rx ry q
  · exact h' pins s σ H x y v u Q I rx ry q
theorem CallR.or {fn : Value} {r r' : List V → Hp → VK → Prop} (h : CallR X fn r) (h' : CallR X fn r') : CallR X fn (fun xs H Q => r xs H Q ∨ r' xs H Q) := by
  intro pins s σ H xs us Q I rx q
  rcases q with q | q
  · exact h pins s σ H xs us Q I rx q
  · exact h' pins s σ H xs us Q I rx q

theorem rd_op {op : D → D → DK → Prop} {r : R2} (hK : f.g.K = X.K) (hd : OpD X.K r op) {σ : St} {H : Hp} {Q : VK} (h : RD f W (ca + cb) (mOp op ma mb) σ H Q) : tOp r (RD f W ca ma) (RD f W cb mb) σ H Q := by
  obtain ⟨B, n, ρ, Q0, W0, R, hm, hq, hw⟩ := h
  refine rd_i (m := n + cb) (R.mono (by omega)) hm (fun x vx H1 h1 e1 R1 r1 => ?_) (fun x cls dd H' q e s er => hw x cls dd H' q e (s.mono (by omega)) er)
  refine rd_i (m := n) R1 h1 (fun y vy H2 h2 e2 R2 r2 => ?_) (fun x cls dd H' q e s er => hw x cls dd H' q (e1.trans e) s er)
  exact hd f.g B H2 vx vy x y Q0 Q hK R2.ok.dom (r1.kp R1.ok e2) r2 h2 fun d v H' q gw r => hq d v H' q ((e1.trans e2).trans gw.kp) (gw.src R2.ok.src) r
theorem ce_op {o : Operator} {op : D → D → DK → Prop} {r : R2} {pos : Pos} (hK : f.g.K = X.K) (ho : OpR X (binaryOp o) r) (hd : OpD X.K r op) (ha : CE f X W ca a ma) (hb : CE f X W cb b mb) : CE f X W (ca + cb) (.BinOp a o b pos) (mOp op ma mb) :=
  PE.imp (pe_op ho ha hb) fun _ _ _ h => rd_op hK hd h
theorem ce_un {o : UnaryOp} {op : D → DK → Prop} {r : V → Hp → VK → Prop} {pos : Pos} (hK : f.g.K = X.K) (ho : UnR X (unaryOp o) r) (hd : UnD X.K r op) (ha : CE f X W ca a ma) : CE f X W ca (.UnaryOp o a pos) (mUn op ma) :=
  PE.imp (pe_un ho ha) fun σ H Q h => by
    obtain ⟨B, n, ρ, Q0, W0, R, hm, hq, hw⟩ := h
    refine rd_i (m := n) R hm (fun x vx H1 h1 e1 R1 r1 => ?_) hw
    exact hd f.g B H1 vx x Q0 Q hK R1.ok.dom r1 h1 fun d v H' q gw r => hq d v H' q (e1.trans gw.kp) (gw.src R1.ok.src) r
theorem ce_cmp {o : CmpOp} {op : D → D → DK → Prop} {r : R2} {pos : Pos} (hK : f.g.K = X.K) (ho : OpR X (compareOp o) r) (hd : OpD X.K r op) (ha : CE f X W ca a ma) (hb : CE f X W cb b mb) (hm : behindInMarks o b = false := by first | exact nomark _ | with_unfolding_all rfl) :
    CE f X W (ca + cb) (.Compare a [o] [b] pos) (mOp op ma mb) := PE.imp (pe_cmpR ho ha hb hm) fun _ _ _ h => rd_op hK hd h
theorem rt_test {σ : St} {H : Hp} {Q : Bool → Hp → Prop} {t : TE} (k : ∀ Q, RD f W ca ma σ H Q → t σ H Q) (h : RT f W ca (mTest ma) σ H Q) : tTest t σ H Q := by
  obtain ⟨B, n, ρ, Q0, W0, R, hm, hq, hw⟩ := h
  refine k _ ⟨B, n, ρ, _, W0, R, hm, fun d v H' q e s r => ?_, hw⟩
  cases r with
  | bl b => exact ⟨b, rfl, hq b H' q e s⟩
  | _ => exact q.elim
theorem ct_cmp {o : CmpOp} {op : D → D → DK → Prop} {r : R2} {pos : Pos} (hK : f.g.K = X.K) (ho : OpR X (compareOp o) r) (hd : OpD X.K r op) (ha : CE f X W ca a ma) (hb : CE f X W cb b mb) (hm : behindInMarks o b = false := by first | exact nomark _ | with_unfolding_all rfl) :
    CT f X W (ca + cb) (.Compare a [o] [b] pos) (mTest (mOp op ma mb)) := PT.imp (pt_cmpR ho ha hb hm) fun _ _ _ h => rt_test (fun _ q => rd_op hK hd q) h
theorem rd_chain {op op' : D → D → DK → Prop} {r r' : R2} (hK : f.g.K = X.K) (hd : OpD X.K r op) (hd' : OpD X.K r' op') {σ : St} {H : Hp} {Q : VK} (h : RD f W (ca + cb + cc) (mChain op op' ma mb mc) σ H Q) : tChain r r' (RD f W ca ma) (RD f W cb mb) (RD f W cc mc) σ H Q := by
  obtain ⟨B, n, ρ, Q0, W0, R, hm, hq, hw⟩ := h
  refine rd_i (m := n + cc + cb) (R.mono (by omega)) hm (fun x vx H1 h1 e1 R1 r1 => ?_) (fun x cls dd H' q e s er => hw x cls dd H' q e (s.mono (by omega)) er)
  refine rd_i (m := n + cc) R1 h1 (fun y vy H2 h2 e2 R2 r2 => ?_) (fun x cls dd H' q e s er => hw x cls dd H' q (e1.trans e) (s.mono (by omega)) er)
  refine hd f.g B H2 vx vy x y _ _ hK R2.ok.dom (r1.kp R1.ok e2) r2 h2 fun d v H3 q gw r => ?_
  have e3 := (e1.trans e2).trans (gw.kp (g := f.g))
  have R3 : Rel f B σ H3 ρ (n + cc) := R2.kp gw.kp (gw.src R2.ok.src)
  cases r with
  | bl k =>
    refine ⟨k, rfl, ?_⟩
    cases k with
    | false =>
      rw [if_neg Bool.false_ne_true]
      exact hq _ _ H3 q e3 (R3.ok.src.mono (by omega)) (.bl false)
    | true =>
      rw [if_pos rfl]
      refine rd_i (m := n) R3 q (fun z vz H4 h4 e4 R4 r4 => ?_) (fun x cls dd H' q e s er => hw x cls dd H' q (e3.trans e) s er)
      refine hd' f.g B H4 vy vz y z _ _ hK R4.ok.dom ((r2.kp R2.ok gw.kp).kp R3.ok e4) r4 h4 fun d v H5 q5 gw5 r5 => ?_
      cases r5 with
      | bl k' => exact hq _ _ H5 q5 ((e3.trans e4).trans gw5.kp) (gw5.src R4.ok.src) (.bl k')
      | _ => exact q5.elim
  | _ => exact q.elim
theorem ct_chain {o o' : CmpOp} {op op' : D → D → DK → Prop} {r r' : R2} {pos : Pos} (hK : f.g.K = X.K) (ho : OpR X (compareOp o) r) (hd : OpD X.K r op) (ho' : OpR X (compareOp o') r') (hd' : OpD X.K r' op') (ha : CE f X W ca a ma) (hb : CE f X W cb b mb) (hc : CE f X W cc c mc)
    (hm : lastMarks [o, o'] [b, c] = false := by with_unfolding_all rfl) : CT f X W (ca + cb + cc) (.Compare a [o, o'] [b, c] pos) (mTest (mChain op op' ma mb mc)) :=
  PT.imp (pt_chain ho ho' ha hb hc hm) fun _ _ _ h => rt_test (fun _ q => rd_chain hK hd hd' q) h
theorem ce_chain {o o' : CmpOp} {op op' : D → D → DK → Prop} {r r' : R2} {pos : Pos} (hK : f.g.K = X.K) (ho : OpR X (compareOp o) r) (hd : OpD X.K r op) (ho' : OpR X (compareOp o') r') (hd' : OpD X.K r' op') (ha : CE f X W ca a ma) (hb : CE f X W cb b mb) (hc : CE f X W cc c mc)
    (hm : lastMarks [o, o'] [b, c] = false := by with_unfolding_all rfl) : CE f X W (ca + cb + cc) (.Compare a [o, o'] [b, c] pos) (mChain op op' ma mb mc) :=
  PE.imp (pe_chain ho ho' ha hb hc hm) fun _ _ _ h => rd_chain hK hd hd' h
/-! tests -/
theorem ct_val {e : Expr} {me : ME} (h : CE f X W ca e me) (he : ∀ whole, isTrue e X.env whole = (do let v ← whole; standAt e.pos; holding [v] (truthy v)) := by intro _; rfl) : CT f X W ca e (mTest me) :=
  PT.imp (pt_val h he) fun _ _ _ h => rt_test (fun _ q => q) h
theorem ct_truth {e : Expr} {me : ME} (hK : f.g.K = X.K) (h : CE f X W ca e me) (he : ∀ whole, isTrue e X.env whole = (do let v ← whole; standAt e.pos; holding [v] (truthy v)) := by intro _; rfl) : CT f X W ca e (mTruth me) :=
  PT.imp (pt_truth h he) fun σ H Q h => by
    obtain ⟨B, n, ρ, Q0, W0, R, hm, hq, hw⟩ := h
    refine ⟨B, n, ρ, _, W0, R, hm, fun d v H' q e s r => ?_, hw⟩
    cases r with
    | non => exact ⟨_, rfl, hq _ H' q e s⟩
    | bl b => exact ⟨_, rfl, hq _ H' q e s⟩
    | int b => exact ⟨_, rfl, hq _ H' q e s⟩
    | str b => exact ⟨_, ⟨q.1, rfl⟩, hq _ H' q.2 e s⟩
    | tup h1 h2 h3 => exact ⟨_, .inr (.inl ⟨_, .inl (.inl h1), rfl⟩), hq _ H' (by cases h3 <;> exact q) e s⟩
    | wtup h1 h3 => exact ⟨_, .inr (.inl ⟨_, .inr (hK ▸ h1), rfl⟩), hq _ H' (by cases h3 <;> exact q) e s⟩
    | lst h1 h2 h3 => exact ⟨_, .inl ⟨_, .inl (.inl h1), rfl⟩, hq _ H' (by cases h3 <;> exact q) e s⟩
    | dct h1 h2 h3 => exact ⟨_, .inr (.inr ⟨_, h1, rfl⟩), hq _ H' (by cases h3 <;> exact q) e s⟩
    | exc0 => exact q.elim
    | exc1 => exact q.elim
    | src => exact q.elim
end
end Hm
set_option Elab.async false
set_option linter.all false
set_option maxRecDepth 100000
set_option maxHeartbeats 2000000
namespace Hm
open PySem L2

section
variable {f : FrC} {X : Cx} {W : WX} {ca cb cc : Nat} {a b c : Expr} {es : List Expr} {ma mb mc : ME} {ta tb tc : MT} {mas : MA} {rest : List Expr} {pos : Pos}
/-! and, or, not -/
theorem cw_and1 (ha : CT f X W ca a ta) : PW X (.BoolOp .And [a] pos) (RT f W ca ta) := pw_and1 ha
theorem cw_or1 (ha : CT f X W ca a ta) : PW X (.BoolOp .Or [a] pos) (RT f W ca ta) := pw_or1 ha
theorem PW.imp {e : Expr} {t t' : TT} (h : PW X e t) (k : ∀ σ H Q, t' σ H Q → t σ H Q) : PW X e t' := ⟨fun wh pins s σ H Q I q => h.run wh pins s σ H Q I (k σ H Q q)⟩
theorem cw_and (ha : CT f X W ca a ta) (hb : PW X (.BoolOp .And (b :: rest) pos) (RT f W cb tb)) : PW X (.BoolOp .And (a :: b :: rest) pos) (RT f W (ca + cb) (mAnd ta tb)) :=
  PW.imp (pw_and ha hb) fun σ H Q h => by
    obtain ⟨B, n, ρ, Q0, W0, R, hm, hq, hw⟩ := h
    refine rt_i (m := n + cb) (R.mono (by omega)) hm (fun x H1 h1 e1 R1 => ?_) (fun x cls dd H' q e s er => hw x cls dd H' q e (s.mono (by omega)) er)
    cases x with
    | true =>
      rw [if_pos rfl] at h1 ⊢
      exact rt_i (m := n) R1 h1 (fun y H2 h2 e2 R2 => hq y H2 h2 (e1.trans e2) R2.ok.src) (fun x cls dd H' q e s er => hw x cls dd H' q (e1.trans e) s er)
    | false =>
      rw [if_neg Bool.false_ne_true] at h1 ⊢
      exact hq false H1 h1 e1 (R1.ok.src.mono (by omega))
theorem cw_or (ha : CT f X W ca a ta) (hb : PW X (.BoolOp .Or (b :: rest) pos) (RT f W cb tb)) : PW X (.BoolOp .Or (a :: b :: rest) pos) (RT f W (ca + cb) (mOr ta tb)) :=
  PW.imp (pw_or ha hb) fun σ H Q h => by
    obtain ⟨B, n, ρ, Q0, W0, R, hm, hq, hw⟩ := h
    refine rt_i (m := n + cb) (R.mono (by omega)) hm (fun x H1 h1 e1 R1 => ?_) (fun x cls dd H' q e s er => hw x cls dd H' q e (s.mono (by omega)) er)
    cases x with
    | false =>
      rw [if_neg Bool.false_ne_true] at h1 ⊢
      exact rt_i (m := n) R1 h1 (fun y H2 h2 e2 R2 => hq y H2 h2 (e1.trans e2) R2.ok.src) (fun x cls dd H' q e s er => hw x cls dd H' q (e1.trans e) s er)
    | true =>
      rw [if_pos rfl] at h1 ⊢
      exact hq true H1 h1 e1 (R1.ok.src.mono (by omega))
theorem ct_w {e : Expr} (h : PW X e (RT f W ca ta)) : CT f X W ca e ta := h.pt
theorem ct_not (ha : CT f X W ca a ta) : CT f X W ca (.UnaryOp .Not a pos) (mNot ta) := PT.imp (pt_not ha) fun σ H Q h => by
  obtain ⟨B, n, ρ, Q0, W0, R, hm, hq, hw⟩ := h
  exact ⟨B, n, ρ, _, W0, R, hm, fun d H' q e s => hq _ H' q e s, hw⟩
theorem ce_one {o} (h : CE f X W ca a ma) : CE f X W ca (.BoolOp o [a] pos) ma := pe_one h
theorem ce_and (ha : CE f X W ca a ma) (hb : CE f X W cb (.BoolOp .And (b :: rest) pos) mb) : CE f X W (ca + cb) (.BoolOp .And (a :: b :: rest) pos) (mAndV ma mb) :=
  PE.imp (pe_and ha hb) fun σ H Q h => by
    obtain ⟨B, n, ρ, Q0, W0, R, hm, hq, hw⟩ := h
    refine rd_i (m := n + cb) (R.mono (by omega)) hm (fun x v H1 h1 e1 R1 r1 => ?_) (fun x cls dd H' q e s er => hw x cls dd H' q e (s.mono (by omega)) er)
    cases r1 with
    | bl k =>
      refine ⟨k, rfl, ?_⟩
      have h1' : if k = true then mb ρ Q0 W0 else Q0 (.bl false) := h1
      cases k with
      | true =>
        rw [if_pos rfl] at h1' ⊢
        exact rd_i (m := n) R1 h1' (fun y v H2 h2 e2 R2 r2 => hq y v H2 h2 (e1.trans e2) R2.ok.src r2) (fun x cls dd H' q e s er => hw x cls dd H' q (e1.trans e) s er)
      | false =>
        rw [if_neg Bool.false_ne_true] at h1' ⊢
        exact hq _ _ H1 h1' e1 (R1.ok.src.mono (by omega)) (.bl false)
    | _ => exact h1.elim
theorem ce_or (ha : CE f X W ca a ma) (hb : CE f X W cb (.BoolOp .Or (b :: rest) pos) mb) : CE f X W (ca + cb) (.BoolOp .Or (a :: b :: rest) pos) (mOrV ma mb) :=
  PE.imp (pe_or ha hb) fun σ H Q h => by
    obtain ⟨B, n, ρ, Q0, W0, R, hm, hq, hw⟩ := h
    refine rd_i (m := n + cb) (R.mono (by omega)) hm (fun x v H1 h1 e1 R1 r1 => ?_) (fun x cls dd H' q e s er => hw x cls dd H' q e (s.mono (by omega)) er)
    cases r1 with
    | bl k =>
      refine ⟨k, rfl, ?_⟩
      have h1' : if k = true then Q0 (.bl true) else mb ρ Q0 W0 := h1
      cases k with
      | false =>
        rw [if_neg Bool.false_ne_true] at h1' ⊢
        exact rd_i (m := n) R1 h1' (fun y v H2 h2 e2 R2 r2 => hq y v H2 h2 (e1.trans e2) R2.ok.src r2) (fun x cls dd H' q e s er => hw x cls dd H' q (e1.trans e) s er)
      | true =>
        rw [if_pos rfl] at h1' ⊢
        exact hq _ _ H1 h1' e1 (R1.ok.src.mono (by omega)) (.bl true)
    | _ => exact h1.elim
theorem ce_not (ha : CE f X W ca a ma) : CE f X W ca (.UnaryOp .Not a pos) (mNotV ma) := PE.imp (pe_not ha) fun σ H Q h => by
  obtain ⟨B, n, ρ, Q0, W0, R, hm, hq, hw⟩ := h
  refine rd_i (m := n) R hm (fun x v H1 h1 e1 R1 r1 => ?_) hw
  cases r1 with
  | bl k => exact ⟨k, rfl, hq _ _ H1 h1 e1 R1.ok.src (.bl _)⟩
  | _ => exact h1.elim
theorem ce_if {t : Expr} (ht : CT f X W cc t tc) (ha : CE f X W ca a ma) (hb : CE f X W cb b mb) : CE f X W (cc + (ca + cb)) (.IfExp t a b pos) (mIf tc ma mb) :=
  PE.imp (pe_ifExp ht ha hb) fun σ H Q h => by
    obtain ⟨B, n, ρ, Q0, W0, R, hm, hq, hw⟩ := h
    refine rt_i (m := n + (ca + cb)) (R.mono (by omega)) hm (fun x H1 h1 e1 R1 => ?_) (fun x cls dd H' q e s er => hw x cls dd H' q e (s.mono (by omega)) er)
    cases x with
    | true =>
      rw [if_pos rfl] at h1 ⊢
      exact rd_i (m := n) (R1.mono (by omega)) h1 (fun y v H2 h2 e2 R2 r2 => hq y v H2 h2 (e1.trans e2) R2.ok.src r2) (fun x cls dd H' q e s er => hw x cls dd H' q (e1.trans e) s er)
    | false =>
      rw [if_neg Bool.false_ne_true] at h1 ⊢
      exact rd_i (m := n) (R1.mono (by omega)) h1 (fun y v H2 h2 e2 R2 r2 => hq y v H2 h2 (e1.trans e2) R2.ok.src r2) (fun x cls dd H' q e s er => hw x cls dd H' q (e1.trans e) s er)
/-! arguments, tuples, lists -/
theorem ca_nil : CA f X W 0 [] mNil := PA.imp pa_nil fun σ H Q h => by
  obtain ⟨B, n, ρ, Q0, W0, R, hm, hq, hw⟩ := h
  exact hq [] [] H hm (Kp.refl H) R.ok.src .nil
theorem ca_cons (ha : CE f X W ca a ma) (hr : CA f X W cb es mas) (hs : starEach (a :: es) X.env = (false, eval a X.env) :: starEach es X.env := by rfl) : CA f X W (ca + cb) (a :: es) (mCons ma mas) :=
  PA.imp (pa_cons ha hr hs) fun σ H Q h => by
    obtain ⟨B, n, ρ, Q0, W0, R, hm, hq, hw⟩ := h
    refine rd_i (m := n + cb) (R.mono (by omega)) hm (fun x v H1 h1 e1 R1 r1 => ?_) (fun x cls dd H' q e s er => hw x cls dd H' q e (s.mono (by omega)) er)
    exact ra_i (m := n) R1 h1 (fun y v2 H2 h2 e2 R2 r2 => hq _ _ H2 h2 (e1.trans e2) R2.ok.src (.cons (r1.kp R1.ok e2) r2)) (fun x cls dd H' q e s er => hw x cls dd H' q (e1.trans e) s er)
theorem Rep.grow {g : Gc} {B : Addr → Prop} {H H' : Hp} {v : V} {d : D} (e : Gw H H') (r : Rep g B H v d) : Rep g B H' v d := r.move fun a o h nb => ⟨e a o h, nb⟩
theorem Reps.grow {g : Gc} {B : Addr → Prop} {H H' : Hp} {v : List V} {d : List D} (e : Gw H H') (r : Reps g B H v d) : Reps g B H' v d := r.move fun a o h nb => ⟨e a o h, nb⟩
theorem RepsK.grow {g : Gc} {B : Addr → Prop} {H H' : Hp} {v : List (Key × V)} {d : List (Key × D)} (e : Gw H H') (r : RepsK g B H v d) : RepsK g B H' v d := r.move fun a o h nb => ⟨e a o h, nb⟩
theorem nB {B : Addr → Prop} {H : Hp} {p : Addr} (dom : ∀ a, B a → H a ≠ none) (h : H p = none) : ¬ B p := fun z => dom p z h
theorem ce_tup {x1} (h : CA f X W ca es mas) : CE f X W ca (.Tuple es x1 pos) (mTup mas) := PE.imp (pe_tup h) fun σ H Q h => by
  obtain ⟨B, n, ρ, Q0, W0, R, hm, hq, hw⟩ := h
  refine ra_i (m := n) R hm (fun ds vs H1 h1 e1 R1 r1 => ⟨by rw [r1.length]; exact h1.1, fun p hp => ?_⟩) hw
  have gw : Gw H1 (upd H1 p (.tup vs)) := Gw.new hp
  exact hq _ _ _ h1.2 (e1.trans gw.kp) (gw.src R1.ok.src) (.tup upd_same (nB R1.ok.dom hp) (r1.grow gw))
theorem Reps.avoid {g : Gc} {B : Addr → Prop} {H : Hp} {p : Addr} {v : List V} {d : List D} (hp : H p = none) (r : Reps g B H v d) : Reps g (fun a => B a ∨ a = p) H v d :=
  r.move fun a o h nb => ⟨h, fun z => z.elim nb (ne_of_none h hp)⟩
theorem Rep.avoid {g : Gc} {B : Addr → Prop} {H : Hp} {p : Addr} {v : V} {d : D} (hp : H p = none) (r : Rep g B H v d) : Rep g (fun a => B a ∨ a = p) H v d :=
  r.move fun a o h nb => ⟨h, fun z => z.elim nb (ne_of_none h hp)⟩
theorem Reps.free {g : Gc} {B : Addr → Prop} {H : Hp} {p : Addr} {v : List V} {d : List D} (r : Reps g (fun a => B a ∨ a = p) H v d) : Reps g B H v d := r.move fun a o h nb => ⟨h, fun z => nb (.inl z)⟩
/-- a new list as a datum -/
theorem ce_frz {e : Expr} (h : CL f X W ca e mas) : CE f X W ca e (mFrz mas) := PE.imp h fun σ H Q h => by
  obtain ⟨B, n, ρ, Q0, W0, R, hm, hq, hw⟩ := h
  refine ⟨B, n, ρ, _, W0, R, hm, fun ds p vs H' q e s hp h1 r => ?_, hw⟩
  exact hq _ _ H' q e s (.lst h1 (nB R.ok.dom hp) r.free)
theorem cl_lst (h : CA f X W ca es mas) : CL f X W ca (.List es pos) (mLst mas) := PE.imp (pe_lst h) fun σ H Q h => by
  obtain ⟨B, n, ρ, Q0, W0, R, hm, hq, hw⟩ := h
  refine ra_i (m := n) R hm (fun ds vs H1 h1 e1 R1 r1 => ⟨by rw [r1.length]; exact h1.1, fun p hp => ?_⟩) hw
  have gw : Gw H1 (upd H1 p (.lst vs)) := Gw.new hp
  have hp0 : H p = none := by
    cases z : H p with
    | none => rfl
    | some o =>
      by_cases hs : InS f.g p
      · exact absurd hp (R1.ok.dom p (R1.ok.inB hs))
      · rw [e1 p o hs z] at hp; cases hp
  exact hq _ _ _ _ h1.2 (e1.trans gw.kp) (gw.src R1.ok.src) hp0 upd_same ((r1.avoid hp).grow gw)
theorem ce_lst (h : CA f X W ca es mas) : CE f X W ca (.List es pos) (mFrz (mLst mas)) := ce_frz (cl_lst h)
/-! calls -/
theorem ce_blt {id : String} {x : Str} {p : Pos} {r : List V → Hp → VK → Prop} {op : List D → DK → Prop} (hK : f.g.K = X.K) (hc : CallR X (.builtin id) r) (hd : CallD X.K r op) (hg : Gl X x) (hm : X.mg x = none) (hv : bootBuiltins x = some (.builtin id)) (ha : CA f X W ca (a :: es) mas)
    (hn : x ≠ "__name__" := by decide) (hdb : (x == ("__debug__" : Str)) = false := by decide)
    (he : starEach (a :: es) X.env = (false, eval a X.env) :: starEach es X.env := by rfl) (hpl : (backTo pos (starEach es X.env)).any (·.1) = false := by rfl) : CE f X W ca (.Call (.Name x p) (a :: es) [] pos) (mBlt op mas) :=
  PE.imp (pe_callB hc hg hm hv ha hn hdb he hpl) fun σ H Q h => by
    obtain ⟨B, n, ρ, Q0, W0, R, hm, hq, hw⟩ := h
    refine ra_i (m := n) R hm (fun ds vs H1 h1 e1 R1 r1 => ?_) hw
    exact hd f.g B H1 vs ds Q0 Q hK R1.ok.dom r1 h1 fun d v H' q gw r => hq d v H' q (e1.trans gw.kp) (gw.src R1.ok.src) r
theorem ce_blty {T : String} {x : Str} {p : Pos} {r : List V → Hp → VK → Prop} {op : List D → DK → Prop} (hK : f.g.K = X.K) (hc : CallR X (.type T) r) (hd : CallD X.K r op) (hg : Gl X x) (hm : X.mg x = none) (hv : bootBuiltins x = some (.type T)) (ha : CA f X W ca (a :: es) mas)
    (hn : x ≠ "__name__" := by decide) (hdb : (x == ("__debug__" : Str)) = false := by decide)
    (he : starEach (a :: es) X.env = (false, eval a X.env) :: starEach es X.env := by rfl) (hpl : (backTo pos (starEach es X.env)).any (·.1) = false := by rfl) : CE f X W ca (.Call (.Name x p) (a :: es) [] pos) (mBlt op mas) :=
  PE.imp (pe_callTy hc hg hm hv ha hn hdb he hpl) fun σ H Q h => by
    obtain ⟨B, n, ρ, Q0, W0, R, hm, hq, hw⟩ := h
    refine ra_i (m := n) R hm (fun ds vs H1 h1 e1 R1 r1 => ?_) hw
    exact hd f.g B H1 vs ds Q0 Q hK R1.ok.dom r1 h1 fun d v H' q gw r => hq d v H' q (e1.trans gw.kp) (gw.src R1.ok.src) r

/-- a def's promise over data; it draws at most c times -/
def spOf (K : PySem.W.Frag) (ct : Str → Option Addr) (c : Nat) (m : MF) : Sp := fun vs H Q E => ∃ (src : Option (Addr × Addr)) (B : Addr → Prop) (n : Nat) (ds : List D) (Q0 : DK) (W0 : XKD),
  (∀ a, InS ⟨K, ct, src⟩ a → B a) ∧ (∀ a, B a → H a ≠ none) ∧ SrcOk ⟨K, ct, src⟩ H (n + c) ∧ Reps ⟨K, ct, src⟩ B H vs ds ∧ m ds Q0 W0 ∧
  (∀ d v H', Q0 d → Kp ⟨K, ct, src⟩ H H' → SrcOk ⟨K, ct, src⟩ H' n → Rep ⟨K, ct, src⟩ B H' v d → Q v H') ∧
  (∀ x cls dd H', W0 x → Kp ⟨K, ct, src⟩ H H' → SrcOk ⟨K, ct, src⟩ H' n → ErrAt ⟨K, ct, src⟩ B H' cls dd x → E cls dd H')
abbrev FnD (P : Program) (w : World) (K : PySem.W.Frag) (mg : Str → Option Value) (base : Heap) (ct : Str → Option Addr) (k : Nat) (f : Addr) (fd : FuncData) (ps : List Str) (c : Nat) (m : MF) : Prop := FnOk P w K mg base (L2.CX P w) k f fd ps (spOf K ct c m)
theorem ce_call {k c : Nat} {fa : Addr} {fd : FuncData} {ps : List Str} {m : MF} {x : Str} {p : Pos} {ct : Str → Option Addr} (F : FnD X.prog X.w X.K X.mg X.base ct k fa fd ps c m) (hct : f.g.ct = ct) (hK : f.g.K = X.K) (tk : Takes X W) (hr : Room k X.A) (hg : Gl X x) (hm : X.mg x = some (.ref fa)) (hk : PySem.W.keepIn X.K (.ref fa) = true) (hb : Binds X.K fd ps [])
    (ha : CA f X W ca (a :: es) mas) (hdb : (x == ("__debug__" : Str)) = false := by decide) (he : starEach (a :: es) X.env = (false, eval a X.env) :: starEach es X.env := by rfl) (hpl : (backTo pos (starEach es X.env)).any (·.1) = false := by rfl) :
    CE f X W (ca + c) (.Call (.Name x p) (a :: es) [] pos) (mCall m mas) := PE.imp (pe_callS F hr hg hm hk hb (fun σ => passAt tk σ) ha hdb he hpl) fun σ H Q h => by
  obtain ⟨B, n, ρ, Q0, W0, R, hm, hq, hw⟩ := h
  refine ra_i (m := n + c) (R.mono (by omega)) hm (fun ds vs H1 h1 e1 R1 r1 => ?_) (fun x cls dd H' q e s er => hw x cls dd H' q e (s.mono (by omega)) er)
  obtain ⟨g, B0, H0⟩ := f
  obtain ⟨K, ct, src⟩ := g
  cases hK
  cases hct
  exact ⟨src, B, n, ds, Q0, W0, fun a ha => R1.ok.inB ha, R1.ok.dom, R1.ok.src, r1, h1, fun d v H' q e s r => hq d v H' q (e1.trans e) s r, fun x cls dd H' q e s er => hw x cls dd H' q (e1.trans e) s er⟩
theorem ce_call0 {k c : Nat} {fa : Addr} {fd : FuncData} {ps : List Str} {m : MF} {x : Str} {p : Pos} {ct : Str → Option Addr} (F : FnD X.prog X.w X.K X.mg X.base ct k fa fd ps c m) (hct : f.g.ct = ct) (hK : f.g.K = X.K) (tk : Takes X W) (hr : Room k X.A) (hg : Gl X x) (hm : X.mg x = some (.ref fa)) (hk : PySem.W.keepIn X.K (.ref fa) = true) (hb : Binds X.K fd ps [])
    (hdb : (x == ("__debug__" : Str)) = false := by decide) : CE f X W c (.Call (.Name x p) [] [] pos) (mCall m mNil) := by
  refine ⟨fun pins s σ H Q I h => ?_⟩
  refine wpAny_Call_Name_kw (ld_glob I hg hm ?_ hdb)
  refine PySem.W.callWith_K0 I.kIn hk (run_fnS (us := []) (vs := []) F hr hb (passAt tk σ) I .nil ?_)
  obtain ⟨B, n, ρ, Q0, W0, R, hm, hq, hw⟩ := h
  obtain ⟨g, B0, H0⟩ := f
  obtain ⟨K, ct, src⟩ := g
  cases hK
  cases hct
  exact ⟨src, B, n, [], Q0, W0, fun a ha => R.ok.inB ha, R.ok.dom, R.ok.src, .nil, hm, hq, hw⟩
theorem hk2 {f f' : FrC} {K : PySem.W.Frag} (h : f'.g = f.g) (hK : f.g.K = K) : f'.g.K = K := by rw [h]; exact hK
theorem hc2 {f f' : FrC} {ct : Str → Option Addr} (h : f'.g = f.g) (hK : f.g.ct = ct) : f'.g.ct = ct := by rw [h]; exact hK
/-! subscripts -/
theorem ce_ix {r : R2} {op : D → D → DK → Prop} (hK : f.g.K = X.K) (hr : IxR X r) (hd : OpD X.K r op) (ha : CE f X W ca a ma) (hb : CE f X W cb b mb) (hs : PlainIx b := by exact fun _ _ => rfl) : CE f X W (ca + cb) (.Subscript a b pos) (mOp op ma mb) :=
  PE.imp (pe_ix hr ha hb hs) fun _ _ _ h => rd_op hK hd h
end
end Hm
set_option Elab.async false
set_option linter.all false
set_option maxRecDepth 100000
set_option maxHeartbeats 2000000
namespace Hm
open PySem L2

/-! ### statements over data -/
def mNext : MS := fun ρ E => E.nx ρ
def mSeq (a b : MS) : MS := fun ρ E => a ρ { E with nx := fun ρ' => b ρ' E }
def mAsg (i : Nat) (e : ME) : MS := fun ρ E => e ρ (fun d => E.nx (ρ.set i (.dat d))) (E.ex ρ)
def mAsgO (i : Nat) (e : MA) : MS := fun ρ E => e ρ (fun ds => E.nx (ρ.set i (.own ds))) (E.ex ρ)
def mDrop (e : ME) : MS := fun ρ E => e ρ (fun _ => E.nx ρ) (E.ex ρ)
def mRet (e : ME) : MS := fun ρ E => e ρ E.rt (E.ex ρ)
def mRetN : MS := fun _ E => E.rt .non
def mIfS (c : MT) (a b : MS) : MS := fun ρ E => c ρ (fun x => if x = true then a ρ E else b ρ E) (E.ex ρ)
def mBrk : MS := fun ρ E => E.bk ρ
def mCnt : MS := fun ρ E => E.ct ρ
abbrev MG := D → Rho → (Rho → Prop) → Prop
def gNm (i : Nat) : MG := fun d ρ Q => Q (ρ.set i (.dat d))
def setAll (ρ : Rho) : List Nat → List D → Rho
  | i :: is, d :: ds => setAll (ρ.set i (.dat d)) is ds
  | _, _ => ρ
def gTp (is : List Nat) : MG := fun d ρ Q => asT d fun ds => ds.length = is.length ∧ Q (setAll ρ is ds)
def mTo (e : ME) (g : MG) : MS := fun ρ E => e ρ (fun d => g d ρ E.nx) (E.ex ρ)
def mPar (i j : Nat) (a b : ME) : MS := fun ρ E => a ρ (fun x => b ρ (fun y => E.nx ((ρ.set i (.dat x)).set j (.dat y))) (E.ex ρ)) (E.ex ρ)
def mForL (g : MG) (body : MS) : List D → Rho → DEnds → Prop
  | [], ρ, E => E.nx ρ
  | x :: r, ρ, E => g x ρ fun ρ' => body ρ' { E with nx := fun ρ2 => mForL g body r ρ2 E, ct := fun ρ2 => mForL g body r ρ2 E, bk := E.nx }
def mFor (it : ME) (g : MG) (body : MS) : MS := fun ρ E => it ρ (fun d => asL d fun xs => mForL g body xs ρ E) (E.ex ρ)
def mForT (it : ME) (g : MG) (body : MS) : MS := fun ρ E => it ρ (fun d => asT d fun xs => mForL g body xs ρ E) (E.ex ρ)
def rngD (lo : Int) (n : Nat) : List D := (List.range n).map fun i => D.int (lo + (i : Nat))
def mForR1 (a : ME) (g : MG) (body : MS) : MS := fun ρ E => a ρ (fun d => asI d fun j => (-(2 ^ 62) ≤ j ∧ j < 2 ^ 62) ∧ mForL g body (rngD 0 j.toNat) ρ E) (E.ex ρ)
def mForR2 (a b : ME) (g : MG) (body : MS) : MS := fun ρ E => a ρ (fun x => b ρ (fun y => asI x fun i => asI y fun j => (-(2 ^ 62) ≤ i ∧ i < 2 ^ 62 ∧ -(2 ^ 62) ≤ j ∧ j < 2 ^ 62) ∧ mForL g body (rngD i (j - i).toNat) ρ E) (E.ex ρ)) (E.ex ρ)
def mWhile (c : MT) (body : MS) : MS := fun ρ E => ∃ Wd : Nat → Rho → Prop, (∃ m, Wd m ρ) ∧ ∀ m ρ, Wd m ρ →
  c ρ (fun b => if b = true then body ρ { E with nx := fun ρ' => ∃ m', m' < m ∧ Wd m' ρ', ct := fun ρ' => ∃ m', m' < m ∧ Wd m' ρ', bk := E.nx } else E.nx ρ) (E.ex ρ)
def mRaise (x : Err) : MS := fun ρ E => E.ex ρ x
def mFun (k n : Nat) (b : MS) : MF := fun ds Q W => ds.length = k ∧ b (ds.map Sl.dat ++ List.replicate (n - k) .un) { nx := fun _ => Q .non, rt := Q, bk := fun _ => False, ct := fun _ => False, ex := fun _ x => W x }

section
variable {f : FrC} {X : Cx} {W : WX} {ca cb cc : Nat} {a b c : Expr} {es : List Expr} {ma mb mc : ME} {ta tb tc : MT} {mas : MA} {st : Stmt} {sts : List Stmt} {ms mt : MS} {pos : Pos} {B : Addr → Prop} {σ : St} {H : Hp} {ρ : Rho} {n : Nat}

theorem ErrAt.kp {x : Err} {cls : Value} {dd : Option Addr} {H' : Hp} (k : Okk f B H n) (e : Kp f.g H H') (r : ErrAt f.g B H cls dd x) : ErrAt f.g B H' cls dd x := by
  obtain ⟨C, h1, h2, h3⟩ := r
  refine ⟨C, h1, h2, ?_⟩
  rcases h3 with h3 | ⟨d, kvs, e1, e2, e3, e4, e5⟩
  · exact .inl h3
  · exact .inr ⟨d, kvs, e1, e d _ (fun z => e3 (k.inB z)) e2, e3, e4.move fun a o h nb => ⟨e a o (fun z => nb (k.inB z)) h, nb⟩, e5⟩
theorem Rep.low {v : V} {d : D} (k : Okk f B H n) (r : Rep f.g B H v d) : Rep f.g f.B0 H v d := r.move fun a o h nb => ⟨h, fun z => nb (k.b0 a z)⟩

theorem cs_nil : CB f X W 0 [] mNext := PSs.imp pss_nil fun D σ H h => by
  obtain ⟨B, n, ρ, E, R, hm, hn, _⟩ := h
  exact hn B σ H ρ hm R
theorem cs_cons (h1 : CS f X W ca st ms) (h2 : CB f X W cb sts mt) : CB f X W (ca + cb) (st :: sts) (mSeq ms mt) := PSs.imp (pss_cons h1 h2) fun D σ H h => by
  obtain ⟨B, n, ρ, E, R, hm, hn, hr, hb, hc, hx⟩ := h
  refine ⟨B, n + cb, ρ, _, R.mono (by omega), hm, fun B' σ' H' ρ' q R' => ?_, fun d v H' q e s r => hr d v H' q e (s.mono (by omega)) r, fun B' σ' H' ρ' q R' => hb B' σ' H' ρ' q (R'.mono (by omega)), fun B' σ' H' ρ' q R' => hc B' σ' H' ρ' q (R'.mono (by omega)),
    fun B' x cls dd σ' H' ρ' q R' er => hx B' x cls dd σ' H' ρ' q (R'.mono (by omega)) er⟩
  exact ⟨B', n, ρ', E, R', q, hn, hr, hb, hc, hx⟩
theorem cs_one (h1 : CS f X W ca st ms) : CB f X W ca [st] ms := pss_one h1
theorem cs_asg {i : Nat} {x : Str} {p : Pos} (hN : X.N.Nodup) (he : CE f X W ca a ma) (hi : X.N[i]? = some x := by rfl) (hx : Loc X.env.scope x := by first | exact Or.inl rfl | exact Or.inr rfl) (hf : X.fn x = true ∨ X.env.scope.names.lookup x = some .local := by first | exact .inl rfl | exact .inr rfl | assumption)
    (hs : swapsWithSole [.Name x p] a pos.line X.env = pure false := by rfl) (hw : swappedStores [.Name x p] a X.env = pure none := by rfl) : CS f X W ca (.Assign [.Name x p] a pos) (mAsg i ma) :=
  PS.imp (ps_asg he (pg_name (i := i) hN hi hx hf) hs hw rfl) fun D σ H h => by
    obtain ⟨B, n, ρ, E, R, hm, hn, hr, hb, hc, hx⟩ := h
    exact rd_i (m := n) R hm (fun d v H1 h1 e1 R1 r1 => hn B _ H1 _ h1 (R1.set r1)) fun x cls dd H' q e s er => hx B x cls dd σ H' ρ q (R.kp e s) er
theorem cs_expr (he : CE f X W ca a ma) (hs : swapsWith a none pos.line X.env = pure false := by rfl) : CS f X W ca (.Expr a pos) (mDrop ma) := PS.imp (ps_expr he hs) fun D σ H h => by
  obtain ⟨B, n, ρ, E, R, hm, hn, hr, hb, hc, hx⟩ := h
  exact rd_i (m := n) R hm (fun d v H1 h1 e1 R1 r1 => hn B _ H1 _ h1 R1) fun x cls dd H' q e s er => hx B x cls dd σ H' ρ q (R.kp e s) er
theorem cs_ret (he : CE f X W ca a ma) : CS f X W ca (.Return (some a) pos) (mRet ma) := PS.imp (ps_ret he) fun D σ H h => by
  obtain ⟨B, n, ρ, E, R, hm, hn, hr, hb, hc, hx⟩ := h
  exact rd_i (m := n) R hm (fun d v H1 h1 e1 R1 r1 => hr d v H1 h1 R1.ok.keep R1.ok.src (r1.low R1.ok)) fun x cls dd H' q e s er => hx B x cls dd σ H' ρ q (R.kp e s) er
theorem cs_retN : CS f X W 0 (.Return none pos) mRetN := PS.imp ps_retN fun D σ H h => by
  obtain ⟨B, n, ρ, E, R, hm, hn, hr, hb, hc, hx⟩ := h
  exact hr _ _ H hm R.ok.keep R.ok.src .non
theorem cs_pass : CS f X W 0 (.Pass pos) mNext := PS.imp ps_pass fun D σ H h => by
  obtain ⟨B, n, ρ, E, R, hm, hn, _⟩ := h
  exact hn B σ H ρ hm R
theorem cs_brk : CS f X W 0 (.Break pos) mBrk := PS.imp ps_break fun D σ H h => by
  obtain ⟨B, n, ρ, E, R, hm, hn, hr, hb, hc, hx⟩ := h
  exact hb B σ H ρ hm R
theorem cs_cnt : CS f X W 0 (.Continue pos) mCnt := PS.imp ps_continue fun D σ H h => by
  obtain ⟨B, n, ρ, E, R, hm, hn, hr, hb, hc, hx⟩ := h
  exact hc B σ H ρ hm R
theorem cs_if {t : Expr} {sa sb : List Stmt} (ht : CT f X W cc t tc) (ha : CB f X W ca sa ms) (hb : CB f X W cb sb mt) : CS f X W (cc + (ca + cb)) (.If t sa sb pos) (mIfS tc ms mt) := PS.imp (ps_if ht ha hb) fun D σ H h => by
  obtain ⟨B, n, ρ, E, R, hm, hn, hr, hb, hc, hx⟩ := h
  refine rt_i (m := n + (ca + cb)) (R.mono (by omega)) hm (fun x H1 h1 e1 R1 => ?_) fun x cls dd H' q e s er => hx B x cls dd σ H' ρ q (R.kp e (s.mono (by omega))) er
  cases x with
  | true =>
    rw [if_pos rfl] at h1 ⊢
    exact ⟨B, n, ρ, E, R1.mono (by omega), h1, hn, hr, hb, hc, hx⟩
  | false =>
    rw [if_neg Bool.false_ne_true] at h1 ⊢
    exact ⟨B, n, ρ, E, R1.mono (by omega), h1, hn, hr, hb, hc, hx⟩

/-! targets -/
/-- slots elsewhere are as they were -/
def Agr (is : List Nat) (σ σ' : St) : Prop := σ'.length = σ.length ∧ ∀ i, i ∉ is → σ'[i]? = σ[i]?
/-- a target over values, over data; it stores at the slots is -/
def TgD (f : FrC) (is : List Nat) (t : TG) (g : MG) : Prop := ∀ (B : Addr → Prop) (σ : St) (H : Hp) (ρ : Rho) (n : Nat) (v : V) (d : D) (Q0 : Rho → Prop) (Q : St → Hp → Prop), Rel f B σ H ρ n → Rep f.g B H v d → g d ρ Q0 → (∀ σ' ρ', Q0 ρ' → Rel f B σ' H ρ' n → Agr is σ σ' → Q σ' H) → t v σ H Q
theorem agr_set {is : List Nat} {σ : St} {i : Nat} {x : Option V} (h : i ∈ is) : Agr is σ (σ.set i x) := ⟨List.length_set, fun j hj => List.getElem?_set_ne (fun e : i = j => hj (e ▸ h))⟩
theorem tg_name {i : Nat} : TgD f [i] (gName i) (gNm i) := fun B σ H ρ n v d Q0 Q R r h k => k _ _ h (R.set r) (agr_set (by simp))
def tgs (f : FrC) (t : TGs) (is : List Nat) : Prop := ∀ (B : Addr → Prop) (σ : St) (H : Hp) (ρ : Rho) (n : Nat) (vs : List V) (ds : List D) (Q0 : Rho → Prop) (Q : St → Hp → Prop), Rel f B σ H ρ n → Reps f.g B H vs ds → ds.length = is.length → Q0 (setAll ρ is ds) → (∀ σ' ρ', Q0 ρ' → Rel f B σ' H ρ' n → Agr is σ σ' → Q σ' H) → t vs σ H Q
theorem tgs_nil : tgs f gNil [] := fun B σ H ρ n vs ds Q0 Q R r hl h k => by
  cases r with
  | nil => exact ⟨rfl, k σ ρ h R ⟨rfl, fun _ _ => rfl⟩⟩
  | cons _ _ => cases hl
theorem tgs_cons {i : Nat} {is : List Nat} {t : TGs} (ht : tgs f t is) : tgs f (gCons (gName i) t) (i :: is) := fun B σ H ρ n vs ds Q0 Q R r hl h k => by
  cases r with
  | nil => cases hl
  | cons r1 r2 =>
    refine ⟨_, _, rfl, ht B _ H _ n _ _ Q0 Q (R.set r1) r2 (Nat.succ.inj hl) h fun σ' ρ' q R' ag => k σ' ρ' q R' ⟨ag.1.trans List.length_set, fun j hj => ?_⟩⟩
    rw [ag.2 j fun z => hj (List.mem_cons_of_mem _ z)]
    exact List.getElem?_set_ne (fun e : i = j => hj (by rw [← e]; exact List.mem_cons_self))
theorem tg_tup {is : List Nat} {t : TGs} {k : Nat} (hK : f.g.K = X.K) (hk : is.length = k) (ht : tgs f t is) : TgD f is (gTup X.K k t) (gTp is) := fun B σ H ρ n v d Q0 Q R r h q => by
  cases r with
  | tup h1 h2 h3 => exact ⟨_, _, rfl, .inl (.inl h1), by rw [h3.length, h.1, hk], ht B σ H ρ n _ _ Q0 Q R h3 h.1 h.2 q⟩
  | wtup h1 h3 => exact ⟨_, _, rfl, .inr (hK ▸ h1), by rw [h3.length, h.1, hk], ht B σ H ρ n _ _ Q0 Q R h3 h.1 h.2 q⟩
  | _ => exact h.elim
theorem cs_to {tg : Expr} {t : TG} {g : MG} {is : List Nat} (he : CE f X W ca a ma) (hg : PG X tg t) (hd : TgD f is t g) (hs : swapsWithSole [tg] a pos.line X.env = pure false := by rfl) (hw : swappedStores [tg] a X.env = pure none := by rfl)
    (h1 : (assignEach [tg] X.env).map (·.2) = [assign tg X.env] := by rfl) : CS f X W ca (.Assign [tg] a pos) (mTo ma g) := PS.imp (ps_asg he hg hs hw h1) fun D σ H h => by
  obtain ⟨B, n, ρ, E, R, hm, hn, hr, hb, hc, hx⟩ := h
  exact rd_i (m := n) R hm (fun d v H1 h1 e1 R1 r1 => hd B σ H1 ρ n v d _ _ R1 r1 h1 fun σ' ρ' q R' _ => hn B σ' H1 ρ' q R') fun x cls dd H' q e s er => hx B x cls dd σ H' ρ q (R.kp e s) er
theorem cs_par {i j : Nat} {x y : Str} {px py pt : Pos} {kt k2 pt2} (hc : X.calm = true) (hN : X.N.Nodup) (hij : i ≠ j) (ha : CE f X W ca a ma) (hb : CE f X W cb b mb) (hi : X.N[i]? = some x := by rfl) (hj : X.N[j]? = some y := by rfl)
    (hx : X.env.scope.names.lookup x = some .local := by rfl) (hy : X.env.scope.names.lookup y = some .local := by rfl)
    (hw : swappedStores [.Tuple [.Name x px, .Name y py] kt pt] (.Tuple [a, b] k2 pt2) X.env = pure (some [x, y]) := by rfl)
    (hs : swapsWithSole [.Tuple [.Name x px, .Name y py] kt pt] (.Tuple [a, b] k2 pt2) pos.line X.env = pure false := by rfl) (ea : starEach [a, b] X.env = (false, eval a X.env) :: starEach [b] X.env := by rfl) (eb : starEach [b] X.env = (false, eval b X.env) :: starEach [] X.env := by rfl) :
    CS f X W (ca + (cb + 0)) (.Assign [.Tuple [.Name x px, .Name y py] kt pt] (.Tuple [a, b] k2 pt2) pos) (mPar i j ma mb) :=
  PS.imp (ps_par (i := i) (j := j) hc hN hi hj hij hx hy (ca_cons ha (ca_cons hb ca_nil eb) ea) hw hs) fun D σ H h => by
    obtain ⟨B, n, ρ, E, R, hm, hn, hr, hb, hc, hx⟩ := h
    refine ra_i (m := n) (Q0 := fun ds => ∃ x y, ds = [x, y] ∧ E.nx ((ρ.set i (.dat x)).set j (.dat y))) (W0 := E.ex ρ) R ?_ (fun ds vs H1 h1 e1 R1 r1 => ?_) fun x cls dd H' q e s er => hx B x cls dd σ H' ρ q (R.kp e s) er
    · show ma ρ (fun x => mb ρ (fun y => ∃ u v, [x, y] = [u, v] ∧ _) _) _
      have hm' : ma ρ (fun x => mb ρ (fun y => E.nx ((ρ.set i (.dat x)).set j (.dat y))) (E.ex ρ)) (E.ex ρ) := hm
      have ex : (fun x => mb ρ (fun y => ∃ u v, [x, y] = [u, v] ∧ E.nx ((ρ.set i (.dat u)).set j (.dat v))) (E.ex ρ)) = (fun x => mb ρ (fun y => E.nx ((ρ.set i (.dat x)).set j (.dat y))) (E.ex ρ)) := by
        funext x
        congr 1
        funext y
        apply propext
        constructor
        · rintro ⟨u, v, e, q⟩
          injection e with e1 e2
          injection e2 with e2 _
          subst e1; subst e2
          exact q
        · intro q
          exact ⟨x, y, rfl, q⟩
      rw [ex]
      exact hm'
    · obtain ⟨x, y, rfl, q⟩ := h1
      cases r1 with
      | cons r1 r2 =>
        cases r2 with
        | cons r2 r3 =>
          cases r3
          exact ⟨_, _, rfl, hn B _ H1 _ q ((R1.set r1).set r2)⟩
end
end Hm
set_option Elab.async false
set_option linter.all false
set_option maxRecDepth 100000
set_option maxHeartbeats 2000000
namespace Hm
open PySem L2

/-! ### a frame taken up in the middle: all but its own lists stands from here on -/
open Classical in
noncomputable def FrC.root (f : FrC) (B : Addr → Prop) (H : Hp) : FrC := ⟨f.g, f.B0, fun a => if B a ∧ ¬ f.B0 a then none else H a⟩
section
variable {f : FrC} {B B' : Addr → Prop} {σ σ' : St} {H H' : Hp} {ρ ρ' : Rho} {n n' : Nat}
theorem root_none {a : Addr} (h : B a) (h0 : ¬ f.B0 a) : (f.root B H).H0 a = none := if_pos ⟨h, h0⟩
theorem root_some {a : Addr} (h : ¬ (B a ∧ ¬ f.B0 a)) : (f.root B H).H0 a = H a := if_neg h
theorem Okk.own0 (k : Okk f B H n) {p : Addr} (h : f.H0 p = none) : ¬ f.B0 p := fun z => k.d0 p z h
theorem Rel.root (R : Rel f B σ H ρ n) : Rel (f.root B H) B σ H ρ n := by
  have own : ∀ p, B p → f.H0 p = none → (f.root B H).H0 p = none := fun p b h => root_none b (R.ok.own0 h)
  refine ⟨⟨R.ok.s0, fun a h => ?_, R.ok.b0, fun a h => ?_, R.ok.dom, fun a o ns h => ?_, R.ok.src⟩, R.len, fun i x o h1 h2 => ?_, R.inj⟩
  · have h' : f.B0 a := h
    rw [root_some fun z => z.2 h']
    exact R.ok.dom a (R.ok.b0 a h')
  · by_cases h0 : f.B0 a
    · exact .inl h0
    · exact .inr (root_none h h0)
  · by_cases hb : B a ∧ ¬ f.B0 a
    · rw [root_none hb.1 hb.2] at h; cases h
    · rw [root_some hb] at h; exact h
  · have q := R.sl i x o h1 h2
    cases x with
    | un => trivial
    | dat d => exact q
    | own ds =>
      obtain ⟨p, vs, e1, b, h0, hp, r⟩ := q
      exact ⟨p, vs, e1, b, own p b h0, hp, r⟩
    | ownd ds =>
      obtain ⟨p, vs, e1, b, h0, hp, r⟩ := q
      exact ⟨p, vs, e1, b, own p b h0, hp, r⟩
theorem Okk.back0 (k : Okk f B H n) {p : Addr} (h : (f.root B H).H0 p = none) : f.H0 p = none := by
  cases z : f.H0 p with
  | none => rfl
  | some o =>
    by_cases hb : B p ∧ ¬ f.B0 p
    · rcases k.ow p hb.1 with q | q
      · exact absurd q hb.2
      · rw [q] at z; cases z
    · rw [root_some hb] at h
      by_cases hs : InS f.g p
      · exact absurd h (k.dom p (k.inB hs))
      · rw [k.keep p o hs z] at h; cases h
theorem Okk.keepBack (k : Okk f B H n) (e : Kp f.g (f.root B H).H0 H') : Kp f.g f.H0 H' := fun a o ns h => by
  have h1 := k.keep a o ns h
  by_cases hb : B a ∧ ¬ f.B0 a
  · rcases k.ow a hb.1 with q | q
    · exact absurd q hb.2
    · rw [q] at h; cases h
  · exact e a o ns (by rw [root_some hb]; exact h1)
theorem Rel.unroot (k : Okk f B H n) (R : Rel (f.root B H) B' σ' H' ρ' n') : Rel f B' σ' H' ρ' n' := by
  refine ⟨⟨R.ok.s0, k.d0, R.ok.b0, fun a h => ?_, R.ok.dom, k.keepBack R.ok.keep, R.ok.src⟩, R.len, fun i x o h1 h2 => ?_, R.inj⟩
  · rcases R.ok.ow a h with q | q
    · exact .inl q
    · exact .inr (k.back0 q)
  · have q := R.sl i x o h1 h2
    cases x with
    | un => trivial
    | dat d => exact q
    | own ds =>
      obtain ⟨p, vs, e1, b, h0, hp, r⟩ := q
      exact ⟨p, vs, e1, b, k.back0 h0, hp, r⟩
    | ownd ds =>
      obtain ⟨p, vs, e1, b, h0, hp, r⟩ := q
      exact ⟨p, vs, e1, b, k.back0 h0, hp, r⟩
/-- what no own list is stands behind the part -/
theorem Rel.stood (k : Okk f B H n) (R : Rel (f.root B H) B' σ' H' ρ' n') {a : Addr} {o : HO} (h : H a = some o) (nb : ¬ B a) : H' a = some o ∧ ¬ B' a := by
  have e0 : (f.root B H).H0 a = some o := by rw [root_some fun z => nb z.1]; exact h
  refine ⟨R.ok.keep a o (fun z => nb (k.inB z)) e0, fun z => ?_⟩
  rcases R.ok.ow a z with q | q
  · exact nb (k.b0 a q)
  · rw [q] at e0; cases e0
end

section
variable {f : FrC} {X : Cx} {W : WX} {ca cb cc : Nat} {a b c : Expr} {es : List Expr} {ma mb mc : ME} {ta tb tc : MT} {mas : MA} {st : Stmt} {body : List Stmt} {ms mt : MS} {pos : Pos} {B : Addr → Prop} {σ : St} {H : Hp} {ρ : Rho} {n : Nat}
/-- a block under every frame of the same law -/
def CBs (f : FrC) (X : Cx) (W : WX) (c : Nat) (s : List Stmt) (m : MS) : Prop := ∀ f' : FrC, f'.g = f.g → CB f' X W c s m
def RSs (g : Gc) (W : WX) (c : Nat) (m : MS) : TS := fun D σ H => ∃ f' : FrC, f'.g = g ∧ RS f' W c m D σ H
theorem CBs.ps (h : CBs f X W ca body ms) : PSs X body (RSs f.g W ca ms) := ⟨fun pins s σ H D I ⟨f', e, q⟩ => (h f' e).run pins s σ H D I q⟩
def TgDs (f : FrC) (t : TG) (g : MG) : Prop := ∀ f' : FrC, f'.g = f.g → ∃ is, TgD f' is t g

/-- one turn: the target, then the body -/
theorem turn_i {t : TG} {g : MG} {De : Ends} {E : DEnds} {Pv : St → Hp → Prop} {x : V} {d : D} {xs : List D} {k : Nat} (hd : TgDs f t g) (R : Rel f B σ H ρ (n + k + cb)) (r : Rep f.g B H x d) (h : mForL g ms (d :: xs) ρ E)
    (hn : ∀ B' σ' H' ρ', E.nx ρ' → Rel f B' σ' H' ρ' n → De.nx σ' H') (hr : ∀ d v H', E.rt d → Kp f.g f.H0 H' → SrcOk f.g H' n → Rep f.g f.B0 H' v d → De.rt v H')
    (hx : ∀ B' x cls dd σ' H' ρ', E.ex ρ' x → Rel f B' σ' H' ρ' n → ErrAt f.g B' H' cls dd x → W cls dd σ' H')
    (next : ∀ B' σ' H' ρ', mForL g ms xs ρ' E → Rel f B' σ' H' ρ' (n + k) → (∀ a o, H a = some o → ¬ B a → H' a = some o ∧ ¬ B' a) → Pv σ' H') :
    t x σ H fun σ2 H2 => RSs f.g W cb ms { De with nx := Pv, ct := Pv, bk := De.nx } σ2 H2 := by
  have R0 := R.root
  obtain ⟨is, hd'⟩ := hd (f.root B H) rfl
  refine hd' B σ H ρ _ x d _ _ R0 r h fun σ2 ρ2 q R2 _ => ?_
  refine ⟨f.root B H, rfl, B, n + k, ρ2, _, R2, q, fun B' σ' H' ρ' q' R' => ?_, fun d v H' q' e s rr => ?_, fun B' σ' H' ρ' q' R' => ?_, fun B' σ' H' ρ' q' R' => ?_, fun B' x cls dd σ' H' ρ' q' R' er => ?_⟩
  · exact next B' σ' H' ρ' q' (R'.unroot R.ok) fun a o h nb => R'.stood R.ok h nb
  · exact hr d v H' q' (R.ok.keepBack e) (s.mono (by omega)) rr
  · exact hn B' σ' H' ρ' q' ((R'.unroot R.ok).mono (by omega))
  · exact next B' σ' H' ρ' q' (R'.unroot R.ok) fun a o h nb => R'.stood R.ok h nb
  · exact hx B' x cls dd σ' H' ρ' q' ((R'.unroot R.ok).mono (by omega)) er

theorem drop_get {α : Type} {l : List α} {i : Nat} {x : α} (h : l[i]? = some x) : l.drop i = x :: l.drop (i + 1) := by
  obtain ⟨h1, h2⟩ := List.getElem?_eq_some_iff.mp h
  rw [List.drop_eq_getElem_cons h1, h2]
theorem fits_step {n k i m : Nat} (h : i < m) : n + (m - i) * k = n + (m - (i + 1)) * k + k := by
  have e : m - i = (m - (i + 1)) + 1 := by omega
  rw [e, Nat.add_mul, Nat.one_mul, Nat.add_assoc]

theorem mul_step {n k i m : Nat} (h : i < m) : n + (m - (i + 1)) * k + k ≤ n + (m - i) * k := by
  rw [fits_step (n := n) (k := k) h]
  exact Nat.le_refl _
theorem for_core {De : Ends} {E : DEnds} {t : TG} {g : MG} {L : Nat} {p : Addr} {vs : List V} {ds : List D} (hd : TgDs f t g) (hz : vs.length ≤ L) (R : Rel f B σ H ρ (n + L * cb)) (h : mForL g ms ds ρ E) (rs : Reps f.g B H vs ds)
    (K : PySem.W.Frag) {o : HO} (ha : H p = some o) (nb : ¬ B p) (hl : ∀ H', H' p = some o → SqL K H' p vs)
    (hn : ∀ B' σ' H' ρ', E.nx ρ' → Rel f B' σ' H' ρ' n → De.nx σ' H') (hr : ∀ d v H', E.rt d → Kp f.g f.H0 H' → SrcOk f.g H' n → Rep f.g f.B0 H' v d → De.rt v H')
    (hx : ∀ B' x cls dd σ' H' ρ', E.ex ρ' x → Rel f B' σ' H' ρ' n → ErrAt f.g B' H' cls dd x → W cls dd σ' H') :
    ∃ Wf : Nat → Nat → St → Hp → Prop, (∃ m, Wf 0 m σ H) ∧ ∀ i m σ H, Wf i m σ H →
      ((Itl K p).stop i H ∧ De.nx σ H) ∨ ((Itl K p).go i H ∧ ∃ N : St → Hp → Prop, (∀ σ' H', N σ' H' → ∃ m', m' < m ∧ Wf (i + 1) m' σ' H') ∧ ∀ x H', (Itl K p).yld i H x H' → t x σ H' fun σ2 H2 => RSs f.g W cb ms { De with nx := N, ct := N, bk := De.nx } σ2 H2) := by
  refine for_list (K := K) (a := p) (xs := vs) (fun i σ' H' => ∃ B' ρ', Rel f B' σ' H' ρ' (n + (L - i) * cb) ∧ mForL g ms (ds.drop i) ρ' E ∧ H' p = some o ∧ ¬ B' p ∧ Reps f.g B' H' vs ds)
    ⟨B, ρ, R, h, ha, nb, rs⟩ (fun i σ' H' _ ⟨_, _, _, _, h4, _⟩ => hl H' h4) (fun i x σ' H' hi' hP => ?_) (fun σ' H' hP => ?_)
  · obtain ⟨B', ρ', R', hf, ha', nb', rs'⟩ := hP
    have hlt : i < vs.length := (List.getElem?_eq_some_iff.mp hi').1
    have hds : i < ds.length := by rw [← rs.length]; exact hlt
    have ed : ds[i]? = some ds[i] := List.getElem?_eq_getElem hds
    obtain ⟨v2, ev, rv⟩ := rs'.get ed
    rw [hi'] at ev
    cases ev
    rw [drop_get ed] at hf
    refine turn_i (n := n) (k := (L - (i + 1)) * cb) hd (R'.mono (mul_step (by omega))) rv hf hn hr hx fun B2 σ2 H2 ρ2 q2 R2 st => ?_
    exact ⟨B2, ρ2, R2, q2, (st _ _ ha' nb').1, (st _ _ ha' nb').2, rs'.move fun a o h nb => st a o h nb⟩
  · obtain ⟨B', ρ', R', hf, _⟩ := hP
    rw [rs.length, List.drop_length] at hf
    exact hn B' σ' H' ρ' hf (R'.mono (by omega))
theorem for_coreT {De : Ends} {E : DEnds} {t : TG} {g : MG} {L : Nat} {p : Addr} {vs : List V} {ds : List D} (hd : TgDs f t g) (hz : vs.length ≤ L) (R : Rel f B σ H ρ (n + L * cb)) (h : mForL g ms ds ρ E) (rs : Reps f.g B H vs ds)
    (K : PySem.W.Frag) (ha : (H p = some (.tup vs) ∧ ¬ B p) ∨ WrT K p vs)
    (hn : ∀ B' σ' H' ρ', E.nx ρ' → Rel f B' σ' H' ρ' n → De.nx σ' H') (hr : ∀ d v H', E.rt d → Kp f.g f.H0 H' → SrcOk f.g H' n → Rep f.g f.B0 H' v d → De.rt v H')
    (hx : ∀ B' x cls dd σ' H' ρ', E.ex ρ' x → Rel f B' σ' H' ρ' n → ErrAt f.g B' H' cls dd x → W cls dd σ' H') :
    ∃ Wf : Nat → Nat → St → Hp → Prop, (∃ m, Wf 0 m σ H) ∧ ∀ i m σ H, Wf i m σ H →
      ((Itt K p).stop i H ∧ De.nx σ H) ∨ ((Itt K p).go i H ∧ ∃ N : St → Hp → Prop, (∀ σ' H', N σ' H' → ∃ m', m' < m ∧ Wf (i + 1) m' σ' H') ∧ ∀ x H', (Itt K p).yld i H x H' → t x σ H' fun σ2 H2 => RSs f.g W cb ms { De with nx := N, ct := N, bk := De.nx } σ2 H2) := by
  refine for_tup (K := K) (a := p) (xs := vs) (fun i σ' H' => ∃ B' ρ', Rel f B' σ' H' ρ' (n + (L - i) * cb) ∧ mForL g ms (ds.drop i) ρ' E ∧ ((H' p = some (.tup vs) ∧ ¬ B' p) ∨ WrT K p vs) ∧ Reps f.g B' H' vs ds)
    ⟨B, ρ, R, h, ha, rs⟩ (fun i σ' H' _ ⟨_, _, _, _, h4, _⟩ => h4.elim (fun z => .inl (.inl z.1)) .inr) (fun i x σ' H' hi' hP => ?_) (fun σ' H' hP => ?_)
  · obtain ⟨B', ρ', R', hf, ha', rs'⟩ := hP
    have hlt : i < vs.length := (List.getElem?_eq_some_iff.mp hi').1
    have hds : i < ds.length := by rw [← rs.length]; exact hlt
    have ed : ds[i]? = some ds[i] := List.getElem?_eq_getElem hds
    obtain ⟨v2, ev, rv⟩ := rs'.get ed
    rw [hi'] at ev
    cases ev
    rw [drop_get ed] at hf
    refine turn_i (n := n) (k := (L - (i + 1)) * cb) hd (R'.mono (mul_step (by omega))) rv hf hn hr hx fun B2 σ2 H2 ρ2 q2 R2 st => ?_
    exact ⟨B2, ρ2, R2, q2, ha'.imp (fun z => st _ _ z.1 z.2) id, rs'.move fun a o h nb => st a o h nb⟩
  · obtain ⟨B', ρ', R', hf, _⟩ := hP
    rw [rs.length, List.drop_length] at hf
    exact hn B' σ' H' ρ' hf (R'.mono (by omega))
theorem rng_drop {lo : Int} {k i : Nat} (h : i < k) : (rngD lo k).drop i = .int (lo + (i : Nat)) :: (rngD lo k).drop (i + 1) := by
  refine drop_get ?_
  unfold rngD
  rw [List.getElem?_map, List.getElem?_range h]
  rfl
theorem for_coreR {De : Ends} {E : DEnds} {t : TG} {g : MG} {L k : Nat} {lo : Int} (hd : TgDs f t g) (hz : k ≤ L) (R : Rel f B σ H ρ (n + L * cb)) (h : mForL g ms (rngD lo k) ρ E)
    (hn : ∀ B' σ' H' ρ', E.nx ρ' → Rel f B' σ' H' ρ' n → De.nx σ' H') (hr : ∀ d v H', E.rt d → Kp f.g f.H0 H' → SrcOk f.g H' n → Rep f.g f.B0 H' v d → De.rt v H')
    (hx : ∀ B' x cls dd σ' H' ρ', E.ex ρ' x → Rel f B' σ' H' ρ' n → ErrAt f.g B' H' cls dd x → W cls dd σ' H') :
    ∃ Wf : Nat → Nat → St → Hp → Prop, (∃ m, Wf 0 m σ H) ∧ ∀ i m σ H, Wf i m σ H →
      ((Itr lo k).stop i H ∧ De.nx σ H) ∨ ((Itr lo k).go i H ∧ ∃ N : St → Hp → Prop, (∀ σ' H', N σ' H' → ∃ m', m' < m ∧ Wf (i + 1) m' σ' H') ∧ ∀ x H', (Itr lo k).yld i H x H' → t x σ H' fun σ2 H2 => RSs f.g W cb ms { De with nx := N, ct := N, bk := De.nx } σ2 H2) := by
  refine for_range (lo := lo) (n := k) (fun i σ' H' => ∃ B' ρ', Rel f B' σ' H' ρ' (n + (L - i) * cb) ∧ mForL g ms ((rngD lo k).drop i) ρ' E)
    ⟨B, ρ, R, h⟩ (fun i σ' H' hi' hP => ?_) (fun σ' H' hP => ?_)
  · obtain ⟨B', ρ', R', hf⟩ := hP
    rw [rng_drop hi'] at hf
    exact turn_i (n := n) (k := (L - (i + 1)) * cb) hd (R'.mono (mul_step (by omega))) (.int _) hf hn hr hx fun B2 σ2 H2 ρ2 q2 R2 st => ⟨B2, ρ2, R2, q2⟩
  · obtain ⟨B', ρ', R', hf⟩ := hP
    have e : (rngD lo k).drop k = [] := List.drop_of_length_le (by unfold rngD; rw [List.length_map, List.length_range]; exact Nat.le_refl _)
    rw [e] at hf
    exact hn B' σ' H' ρ' hf (R'.mono (by omega))

/-- for x in xs, no draws within -/
theorem cs_for {tg : Expr} {t : TG} {g : MG} (hK : f.g.K = X.K) (hp : PassesOwn (model X.prog X.w) X.A X.env X.xe) (hc : X.calm = true) (hi : CE f X W ca a ma) (hg : PG X tg t) (hd : TgDs f t g) (hb : CBs f X W cb body ms)
    (hs : ∀ x, foldedSetIterable a X.env x = pure x := by intro _; rfl) (h0 : cb = 0 := by rfl) : CS f X W ca (.For tg a body [] pos) (mFor ma g ms) := by
  subst h0; exact
  PS.imp (ps_for hp hc (pi_list hi) hg hb.ps hs) fun De σ H h => by
    obtain ⟨B, n, ρ, E, R, hm, hn, hr, hbk, hct, hx⟩ := h
    refine rd_i (m := n) R hm (fun d v H1 h1 e1 R1 r1 => ?_) fun x cls dd H' q e s er => hx B x cls dd σ H' ρ q (R.kp e s) er
    cases r1 with
    | lst ha nb rs => exact ⟨_, rfl, ⟨_, .inl (.inl ha)⟩, for_core (n := n) (cb := 0) hd (Nat.le_refl _) (by rw [Nat.mul_zero]; exact R1) h1 rs X.K ha nb (fun _ z => .inl (.inl z)) hn hr hx⟩
    | _ => exact h1.elim
/-- .. at most N turns -/
def mForB (N : Nat) (it : ME) (g : MG) (body : MS) : MS := fun ρ E => it ρ (fun d => asL d fun xs => xs.length ≤ N ∧ mForL g body xs ρ E) (E.ex ρ)
theorem cs_forB (N : Nat) {tg : Expr} {t : TG} {g : MG} (hK : f.g.K = X.K) (hp : PassesOwn (model X.prog X.w) X.A X.env X.xe) (hc : X.calm = true) (hi : CE f X W ca a ma) (hg : PG X tg t) (hd : TgDs f t g) (hb : CBs f X W cb body ms)
    (hs : ∀ x, foldedSetIterable a X.env x = pure x := by intro _; rfl) : CS f X W (ca + N * cb) (.For tg a body [] pos) (mForB N ma g ms) :=
  PS.imp (ps_for hp hc (pi_list hi) hg hb.ps hs) fun De σ H h => by
    obtain ⟨B, n, ρ, E, R, hm, hn, hr, hbk, hct, hx⟩ := h
    refine rd_i (m := n + N * cb) (R.mono (by omega)) hm (fun d v H1 h1 e1 R1 r1 => ?_) fun x cls dd H' q e s er => hx B x cls dd σ H' ρ q (R.kp e (s.mono (by omega))) er
    cases r1 with
    | lst ha nb rs => exact ⟨_, rfl, ⟨_, .inl (.inl ha)⟩, for_core (n := n) (cb := cb) (L := N) hd (by rw [rs.length]; exact h1.1) R1 h1.2 rs X.K ha nb (fun _ z => .inl (.inl z)) hn hr hx⟩
    | _ => exact h1.elim
theorem cs_forT {tg : Expr} {t : TG} {g : MG} (hK : f.g.K = X.K) (hp : PassesOwn (model X.prog X.w) X.A X.env X.xe) (hc : X.calm = true) (hi : CE f X W ca a ma) (hg : PG X tg t) (hd : TgDs f t g) (hb : CBs f X W cb body ms)
    (hs : ∀ x, foldedSetIterable a X.env x = pure x := by intro _; rfl) (h0 : cb = 0 := by rfl) : CS f X W ca (.For tg a body [] pos) (mForT ma g ms) := by
  subst h0; exact
  PS.imp (ps_for hp hc (pi_tup hi) hg hb.ps hs) fun De σ H h => by
    obtain ⟨B, n, ρ, E, R, hm, hn, hr, hbk, hct, hx⟩ := h
    refine rd_i (m := n) R hm (fun d v H1 h1 e1 R1 r1 => ?_) fun x cls dd H' q e s er => hx B x cls dd σ H' ρ q (R.kp e s) er
    cases r1 with
    | tup ha nb rs => exact ⟨_, rfl, ⟨_, .inl (.inl ha)⟩, for_coreT (n := n) (cb := 0) hd (Nat.le_refl _) (by rw [Nat.mul_zero]; exact R1) h1 rs X.K (.inl ⟨ha, nb⟩) hn hr hx⟩
    | wtup ha rs => exact ⟨_, rfl, ⟨_, .inr (hK ▸ ha)⟩, for_coreT (n := n) (cb := 0) hd (Nat.le_refl _) (by rw [Nat.mul_zero]; exact R1) h1 rs X.K (.inr (hK ▸ ha)) hn hr hx⟩
    | _ => exact h1.elim
theorem cs_range1 {tg : Expr} {t : TG} {g : MG} {p cpos : Pos} (hp : PassesOwn (model X.prog X.w) X.A X.env X.xe) (hc : X.calm = true) (hgl : Gl X "range") (hmg : X.mg "range" = none) (hi : CE f X W ca a ma) (hg : PG X tg t) (hd : TgDs f t g) (hb : CBs f X W cb body ms)
    (ha : starEach [a] X.env = [(false, eval a X.env)] := by rfl) (hs : ∀ x, foldedSetIterable (.Call (.Name "range" p) [a] [] cpos) X.env x = pure x := by intro _; rfl) : CS f X W (ca + 2 ^ 62 * cb) (.For tg (.Call (.Name "range" p) [a] [] cpos) body [] pos) (mForR1 ma g ms) :=
  PS.imp (ps_for hp hc (pi_range1 hgl hmg (ca_cons hi ca_nil ha) ha) hg hb.ps hs) fun De σ H h => by
    obtain ⟨B, n, ρ, E, R, hm, hn, hr, hbk, hct, hx⟩ := h
    refine ra_i (m := n + 2 ^ 62 * cb) (Q0 := fun ds => ∃ d, ds = [d] ∧ asI d fun j => (-(2 ^ 62) ≤ j ∧ j < 2 ^ 62) ∧ mForL g ms (rngD 0 j.toNat) ρ E) (W0 := E.ex ρ) (R.mono (by omega)) ?_ (fun ds vs H1 h1 e1 R1 r1 => ?_) fun x cls dd H' q e s er => hx B x cls dd σ H' ρ q (R.kp e (s.mono (by omega))) er
    · show ma ρ (fun x => ∃ d, [x] = [d] ∧ _) _
      have e : (fun x : Hm.D => ∃ d, [x] = [d] ∧ asI d fun j => (-(2 ^ 62) ≤ j ∧ j < 2 ^ 62) ∧ mForL g ms (rngD 0 j.toNat) ρ E) = (fun x => asI x fun j => (-(2 ^ 62) ≤ j ∧ j < 2 ^ 62) ∧ mForL g ms (rngD 0 j.toNat) ρ E) := by
        funext x
        apply propext
        constructor
        · rintro ⟨d, e, q⟩
          injection e with e _
          subst e
          exact q
        · exact fun q => ⟨x, rfl, q⟩
      rw [e]
      exact hm
    · obtain ⟨d, rfl, q⟩ := h1
      cases r1 with
      | cons r1 r2 =>
        cases r2
        cases r1 with
        | int j => exact ⟨j, rfl, q.1.1, q.1.2, for_coreR (n := n) (cb := cb) (L := 2 ^ 62) (lo := 0) hd (by have := q.1.2; omega) R1 q.2 hn hr hx⟩
        | _ => exact q.elim
theorem cs_range2 {tg : Expr} {t : TG} {g : MG} {p cpos : Pos} (hp : PassesOwn (model X.prog X.w) X.A X.env X.xe) (hc : X.calm = true) (hgl : Gl X "range") (hmg : X.mg "range" = none) (hi : CE f X W ca a ma) (hj : CE f X W cc b mb) (hg : PG X tg t) (hd : TgDs f t g) (hb : CBs f X W cb body ms)
    (ha : starEach [a, b] X.env = [(false, eval a X.env), (false, eval b X.env)] := by rfl) (ha2 : starEach [b] X.env = [(false, eval b X.env)] := by rfl) (hs : ∀ x, foldedSetIterable (.Call (.Name "range" p) [a, b] [] cpos) X.env x = pure x := by intro _; rfl) :
    CS f X W (ca + (cc + 0) + 2 ^ 63 * cb) (.For tg (.Call (.Name "range" p) [a, b] [] cpos) body [] pos) (mForR2 ma mb g ms) :=
  PS.imp (ps_for hp hc (pi_range2 hgl hmg (ca_cons hi (ca_cons hj ca_nil ha2) (ha.trans (by rw [ha2]))) ha ha2) hg hb.ps hs) fun De σ H h => by
    obtain ⟨B, n, ρ, E, R, hm, hn, hr, hbk, hct, hx⟩ := h
    refine ra_i (m := n + 2 ^ 63 * cb) (Q0 := fun ds => ∃ x y, ds = [x, y] ∧ asI x fun i => asI y fun j => (-(2 ^ 62) ≤ i ∧ i < 2 ^ 62 ∧ -(2 ^ 62) ≤ j ∧ j < 2 ^ 62) ∧ mForL g ms (rngD i (j - i).toNat) ρ E) (W0 := E.ex ρ) (R.mono (by omega)) ?_ (fun ds vs H1 h1 e1 R1 r1 => ?_) fun x cls dd H' q e s er => hx B x cls dd σ H' ρ q (R.kp e (s.mono (by omega))) er
    · show ma ρ (fun x => mb ρ (fun y => ∃ u v, [x, y] = [u, v] ∧ _) _) _
      have e : (fun x => mb ρ (fun y : Hm.D => ∃ u v, [x, y] = [u, v] ∧ asI u fun i => asI v fun j => (-(2 ^ 62) ≤ i ∧ i < 2 ^ 62 ∧ -(2 ^ 62) ≤ j ∧ j < 2 ^ 62) ∧ mForL g ms (rngD i (j - i).toNat) ρ E) (E.ex ρ)) = (fun x => mb ρ (fun y : Hm.D => asI x fun i => asI y fun j => (-(2 ^ 62) ≤ i ∧ i < 2 ^ 62 ∧ -(2 ^ 62) ≤ j ∧ j < 2 ^ 62) ∧ mForL g ms (rngD i (j - i).toNat) ρ E) (E.ex ρ)) := by
        funext x
        congr 1
        funext y
        apply propext
        constructor
        · rintro ⟨u, v, e, q⟩
          injection e with e1 e2
          injection e2 with e2 _
          subst e1; subst e2
          exact q
        · exact fun q => ⟨x, y, rfl, q⟩
      rw [e]
      exact hm
    · obtain ⟨x, y, rfl, q⟩ := h1
      cases r1 with
      | cons r1 r2 =>
        cases r2 with
        | cons r2 r3 =>
          cases r3
          cases r1 with
          | int i =>
            cases r2 with
            | int j => exact ⟨i, j, rfl, q.1, for_coreR (n := n) (cb := cb) (L := 2 ^ 63) (lo := i) hd (by have := q.1; omega) R1 q.2 hn hr hx⟩
            | _ => exact q.elim
          | _ => exact q.elim
/-- while, no draws within -/
theorem cs_while {t : Expr} {ct cb : Nat} (hp : PassesOwn (model X.prog X.w) X.A X.env X.xe) (ht : CT f X W ct t tc) (hb : CB f X W cb body ms) (h1 : ct = 0 := by rfl) (h2 : cb = 0 := by rfl) : CS f X W 0 (.While t body [] pos) (mWhile tc ms) := by
  subst h1; subst h2; exact
  PS.imp (ps_while hp ht hb) fun De σ H h => by
    obtain ⟨B, n, ρ, E, R, ⟨Wd, ⟨m0, w0⟩, turn⟩, hn, hr, hbk, hct, hx⟩ := h
    refine ⟨fun m σ' H' => ∃ B' ρ', Rel f B' σ' H' ρ' n ∧ Wd m ρ', ⟨m0, B, ρ, R, w0⟩, fun m σ' H' hW => ?_⟩
    obtain ⟨B', ρ', R', w'⟩ := hW
    refine rt_i (m := n) (B := B') R' (turn m ρ' w') (fun x H1 h1 e1 R1 => ?_) fun x cls dd H2 q e s er => hx B' x cls dd σ' H2 ρ' q (R'.kp e s) er
    cases x with
    | true =>
      rw [if_pos rfl] at h1 ⊢
      refine ⟨fun σ2 H2 => ∃ m', m' < m ∧ ∃ B2 ρ2, Rel f B2 σ2 H2 ρ2 n ∧ Wd m' ρ2, fun σ2 H2 q => q, B', n, ρ', _, R1, h1, ?_, hr, hn, ?_, hx⟩
      · rintro B2 σ2 H2 ρ2 ⟨m', hm, w2⟩ R2
        exact ⟨m', hm, B2, ρ2, R2, w2⟩
      · rintro B2 σ2 H2 ρ2 ⟨m', hm, w2⟩ R2
        exact ⟨m', hm, B2, ρ2, R2, w2⟩
    | false =>
      rw [if_neg Bool.false_ne_true] at h1 ⊢
      exact hn B' σ' H1 ρ' h1 R1
end
end Hm
set_option Elab.async false
set_option linter.all false
set_option maxRecDepth 100000
set_option maxHeartbeats 2000000
namespace Hm
open PySem L2

/-! ### data as the model's data -/
mutual
def D.py : D → PyData
  | .non => .none
  | .bl b => .bool b
  | .int i => .int i
  | .str s => .str s
  | .tup xs => .tuple (pys xs)
  | .lst xs => .list (pys xs)
  | _ => .none
def pys : List D → List PyData
  | [] => []
  | x :: r => x.py :: pys r
end
mutual
def D.pure : D → Bool
  | .non => true
  | .bl _ => true
  | .int _ => true
  | .str _ => true
  | .tup xs => pures xs
  | .lst xs => pures xs
  | _ => false
def pures : List D → Bool
  | [] => true
  | x :: r => x.pure && pures r
end
def D.okE (d : D) : Bool := d.pure && SeqAt.shaped d.py
def D.eqv (x y : D) : Bool := PyData.eqv x.py y.py
section
variable {g : Gc} {B : Addr → Prop} {H : Hp}
mutual
theorem Rep.dp : ∀ {v : V} {d : D}, Rep g B H v d → d.pure = true → Dp g.K H v d.py
  | _, _, .non, _ => .non
  | _, _, .bl b, _ => .bl b
  | _, _, .int i, _ => .int i
  | _, _, .str s, _ => .str s
  | _, _, .tup h n r, p => .tup (.inl (.inl h)) (Reps.dp r p)
  | _, _, .wtup h r, p => .tup (.inr h) (Reps.dp r p)
  | _, _, .lst h n r, p => .lst (.inl (.inl h)) (Reps.dp r p)
  | _, _, .dct h n r, p => Bool.noConfusion p
  | _, _, .exc0 e h n, p => Bool.noConfusion p
  | _, _, .exc1 e h n h2 n2 r q, p => Bool.noConfusion p
  | _, _, .src e, p => Bool.noConfusion p
theorem Reps.dp : ∀ {vs : List V} {ds : List D}, Reps g B H vs ds → pures ds = true → DpAll g.K H vs (pys ds)
  | _, _, .nil, _ => .nil
  | _, _, .cons r t, p => by
    have p' := Bool.and_eq_true_iff.mp (show (_ && _) = true from p)
    exact .cons (Rep.dp r p'.1) (Reps.dp t p'.2)
end
end

/-! ### operations on data -/
def D.scal : D → D → Bool
  | .non, .non => true | .non, .int _ => true | .int _, .non => true | .non, .bl _ => true | .bl _, .non => true | .non, .str _ => true | .str _, .non => true
  | .int _, .int _ => true | .bl _, .bl _ => true | .str _, .str _ => true
  | .int _, .str _ => true | .str _, .int _ => true | .bl _, .str _ => true | .str _, .bl _ => true
  | _, _ => false
def D.seq : D → D → Bool
  | .non, .non => true
  | .int i, .int j => decide (i = j)
  | .bl a, .bl b => decide (a = b)
  | .str a, .str b => decide (a = b)
  | _, _ => false
def dEq (x y : D) (Q : DK) : Prop := if D.scal x y = true then Q (.bl (D.seq x y)) else x.okE = true ∧ y.okE = true ∧ Q (.bl (x.eqv y))
def dNe (x y : D) (Q : DK) : Prop := if D.scal x y = true then Q (.bl (!D.seq x y)) else x.okE = true ∧ y.okE = true ∧ Q (.bl (!x.eqv y))
def dCmp (p : Int → Int → Bool) : D → D → DK → Prop
  | .int i, .int j, Q => Q (.bl (p i j))
  | _, _, _ => False
abbrev dLt := dCmp fun i j => decide (i < j)
abbrev dLe := dCmp fun i j => decide (i ≤ j)
abbrev dGt := dCmp fun i j => decide (j < i)
abbrev dGe := dCmp fun i j => decide (j ≤ i)
def dAdd : D → D → DK → Prop
  | .int i, .int j, Q => Q (.int (i + j))
  | .str a, .str b, Q => a.length + b.length ≤ sizeLine ∧ Q (.str (a ++ b))
  | .lst a, .lst b, Q => a.length + b.length ≤ sizeLine ∧ Q (.lst (a ++ b))
  | .tup a, .tup b, Q => a.length + b.length ≤ sizeLine ∧ Q (.tup (a ++ b))
  | _, _, _ => False
def dSub : D → D → DK → Prop
  | .int i, .int j, Q => Q (.int (i - j))
  | _, _, _ => False
def dMul : D → D → DK → Prop
  | .int i, .int j, Q => CMulW i j ∧ Q (.int (i * j))
  | .lst a, .int k, Q => (-(2 ^ 63) ≤ k ∧ k < 2 ^ 63 ∧ a.length * k.toNat ≤ sizeLine) ∧ Q (.lst (List.replicate k.toNat a).flatten)
  | _, _, _ => False
def dMod : D → D → DK → Prop
  | .int i, .int j, Q => 0 < j ∧ Q (.int (i % j))
  | _, _, _ => False
def dDiv : D → D → DK → Prop
  | .int i, .int j, Q => CDivW i j ∧ Q (.int (i / j))
  | _, _, _ => False
def CPowW (i j : Int) : Prop := 0 ≤ j ∧ (Builtin.Int.intBits i : Int) * j ≤ 2 ^ 27
def dPow : D → D → DK → Prop
  | .int i, .int j, Q => CPowW i j ∧ Q (.int (i ^ j.toNat))
  | _, _, _ => False
def dNeg : D → DK → Prop
  | .int i, Q => Q (.int (-i))
  | _, _ => False
def D.isN : D → Bool
  | .non => true
  | _ => false
def dIs : D → D → DK → Prop
  | x, .non, Q => Q (.bl x.isN)
  | _, _, _ => False
def dIsNot : D → D → DK → Prop
  | x, .non, Q => Q (.bl (!x.isN))
  | _, _, _ => False
def D.flat : D → Bool
  | .non => true
  | .bl _ => true
  | .int _ => true
  | .str _ => true
  | _ => false
def D.eqF : D → D → Bool
  | .non, .non => true
  | .bl a, .bl b => a == b
  | .bl a, .int b => (if a then 1 else 0) == b
  | .int a, .bl b => a == (if b then 1 else 0)
  | .int a, .int b => a == b
  | .str a, .str b => a == b
  | _, _ => false
def D.isIn (x : D) (xs : List D) : Bool := xs.any fun y => D.eqF y x
def dInN (neg : Bool) : D → D → DK → Prop
  | x, .lst xs, Q => x.flat = true ∧ xs.all D.flat = true ∧ Q (.bl (if neg then !D.isIn x xs else D.isIn x xs))
  | x, .tup xs, Q => x.flat = true ∧ xs.all D.flat = true ∧ Q (.bl (if neg then !D.isIn x xs else D.isIn x xs))
  | _, _, _ => False
abbrev dIn := dInN false
abbrev dNotIn := dInN true
def dIx (x y : D) (Q : DK) : Prop := match x, y with
  | .lst xs, .int i => ∃ d, atI xs i = some d ∧ Q d
  | .tup xs, .int i => ∃ d, atI xs i = some d ∧ Q d
  | .str z, .int i => ∃ c, z.length ≤ sizeLine ∧ atI z.cps.toList i = some c ∧ Q (.str ⟨#[c]⟩)
  | _, _ => False
def cutD (xs : List D) (lo hi : Option Int) : List D := (xs.drop (HT.sIx xs.length 0 lo)).take (HT.sIx xs.length xs.length hi - HT.sIx xs.length 0 lo)

section
variable {K : PySem.W.Frag} {X : Cx}
/-- the answer is a plain one -/
theorem od_plain {r : R2} {op : D → D → DK → Prop} (h : ∀ (g : Gc) (B : Addr → Prop) (H : Hp) (vx vy : V) (x y : D) (Q0 : DK) (Q : VK), g.K = K → Rep g B H vx x → Rep g B H vy y → op x y Q0 → (∀ d v, Q0 d → Rep g B H v d → Q v H) → r vx vy H Q) : OpD K r op :=
  fun g B H vx vy x y Q0 Q hK dom rx ry h1 k => h g B H vx vy x y Q0 Q hK rx ry h1 fun d v q r => k d v H q (Gw.refl H) r
theorem od_cmp (p : Int → Int → Bool) : OpD K (rI0 fun i j => .bl (p i j)) (dCmp p) := od_plain fun g B H vx vy x y Q0 Q hK rx ry h k => by
  cases rx with
  | int i =>
    cases ry with
    | int j => exact ⟨i, j, rfl, rfl, k _ _ h (.bl _)⟩
    | _ => exact h.elim
  | _ => exact h.elim
theorem od_sub : OpD K (rI0 fun i j => .int (i - j)) dSub := od_plain fun g B H vx vy x y Q0 Q hK rx ry h k => by
  cases rx with
  | int i =>
    cases ry with
    | int j => exact ⟨i, j, rfl, rfl, k _ _ h (.int _)⟩
    | _ => exact h.elim
  | _ => exact h.elim
theorem od_mod : OpD K (rI (fun _ j => 0 < j) fun i j => .int (i % j)) dMod := od_plain fun g B H vx vy x y Q0 Q hK rx ry h k => by
  cases rx with
  | int i =>
    cases ry with
    | int j => exact ⟨i, j, rfl, rfl, h.1, k _ _ h.2 (.int _)⟩
    | _ => exact h.elim
  | _ => exact h.elim
theorem od_div : OpD K (rI CDivW fun i j => .int (i / j)) dDiv := od_plain fun g B H vx vy x y Q0 Q hK rx ry h k => by
  cases rx with
  | int i =>
    cases ry with
    | int j => exact ⟨i, j, rfl, rfl, h.1, k _ _ h.2 (.int _)⟩
    | _ => exact h.elim
  | _ => exact h.elim
theorem op_powW : OpR X (binaryOp .Pow) (rI CPowW fun i j => .int (i ^ j.toNat)) := opI fun _ _ _ _ _ _ _ hc q => PyProof.Rows.pow_int hc.1 hc.2 q
theorem od_pow : OpD K (rI CPowW fun i j => .int (i ^ j.toNat)) dPow := od_plain fun g B H vx vy x y Q0 Q hK rx ry h k => by
  cases rx with
  | int i =>
    cases ry with
    | int j => exact ⟨i, j, rfl, rfl, h.1, k _ _ h.2 (.int _)⟩
    | _ => exact h.elim
  | _ => exact h.elim
theorem ud_neg : UnD K (rU fun i => .int (-i)) dNeg := fun g B H vx x Q0 Q hK dom rx h k => by
  cases rx with
  | int i => exact ⟨i, rfl, k _ _ H h (Gw.refl H) (.int _)⟩
  | _ => exact h.elim
def rAddD (K : PySem.W.Frag) : R2 := fun x y H Q => (rI0 fun i j => .int (i + j)) x y H Q ∨ (∃ i j, x = .str i ∧ y = .str j ∧ i.length + j.length ≤ sizeLine ∧ Q (.str (i ++ j)) H) ∨ rCat x y H Q ∨ rCatA K x y H Q
theorem op_addD : OpR X (binaryOp .Add) (rAddD X.K) := OpR.or op_add (OpR.or op_add_str (OpR.or op_cat op_catA))
theorem Rep.tupOf {g : Gc} {B : Addr → Prop} {H : Hp} {v : V} {ds : List D} (r : Rep g B H v (.tup ds)) : ∃ a xs, v = .ref a ∧ SqT g.K H a xs ∧ Reps g B H xs ds := by
  cases r with
  | tup h n q => exact ⟨_, _, rfl, .inl (.inl h), q⟩
  | wtup h q => exact ⟨_, _, rfl, .inr h, q⟩
theorem nil_of {g : Gc} {B : Addr → Prop} {H : Hp} {xs : List V} {ds : List D} (r : Reps g B H xs ds) (h : xs = []) : ds = [] := by
  subst h; cases r; rfl
theorem od_add : OpD K (rAddD K) dAdd := fun g B H vx vy x y Q0 Q hK dom rx ry h k => by
  subst hK
  cases x with
  | int i =>
    cases y with
    | int j => cases rx; cases ry; exact .inl ⟨i, j, rfl, rfl, k _ _ H h (Gw.refl H) (.int _)⟩
    | _ => exact h.elim
  | str i =>
    cases y with
    | str j => cases rx; cases ry; exact .inr (.inl ⟨i, j, rfl, rfl, h.1, k _ _ H h.2 (Gw.refl H) (.str _)⟩)
    | _ => exact h.elim
  | lst i =>
    cases y with
    | lst j =>
      cases rx with
      | lst h1 n1 r1 =>
        cases ry with
        | lst h2 n2 r2 =>
          refine .inr (.inr (.inl ⟨_, _, _, _, rfl, rfl, h1, h2, by rw [r1.length, r2.length]; exact h.1, fun p hp => ?_⟩))
          exact k _ _ _ h.2 (Gw.new hp) (.lst upd_same (nB dom hp) ((r1.append r2).grow (Gw.new hp)))
    | _ => exact h.elim
  | tup i =>
    cases y with
    | tup j =>
      obtain ⟨a, xs, e1, h1, r1⟩ := rx.tupOf
      obtain ⟨b, ys, e2, h2, r2⟩ := ry.tupOf
      subst e1; subst e2
      refine .inr (.inr (.inr ⟨a, b, xs, ys, rfl, rfl, h1, h2, by rw [r1.length, r2.length]; exact h.1, fun e => ?_, fun _ e => ?_, fun _ _ p hp => ?_⟩))
      · have := nil_of r1 e
        subst this
        exact k _ _ H h.2 (Gw.refl H) ry
      · have := nil_of r2 e
        subst this
        have h2 : Q0 (.tup (i ++ [])) := h.2
        rw [List.append_nil] at h2
        exact k _ _ H h2 (Gw.refl H) rx
      · exact k _ _ _ h.2 (Gw.new hp) (.tup upd_same (nB dom hp) ((r1.append r2).grow (Gw.new hp)))
    | _ => exact h.elim
  | _ => exact h.elim
theorem Reps.flat {g : Gc} {B : Addr → Prop} {H : Hp} {vs : List V} {ds : List D} (r : Reps g B H vs ds) : ∀ k, Reps g B H (List.replicate k vs).flatten (List.replicate k ds).flatten
  | 0 => .nil
  | k + 1 => by
    rw [List.replicate_succ, List.replicate_succ, List.flatten_cons, List.flatten_cons]
    exact r.append (Reps.flat r k)
def rMulD : R2 := fun x y H Q => (rI CMulW fun i j => .int (i * j)) x y H Q ∨ rRep x y H Q
theorem op_mulD : OpR X (binaryOp .Mult) rMulD := OpR.or op_mulW op_rep
theorem od_mul : OpD K rMulD dMul := fun g B H vx vy x y Q0 Q hK dom rx ry h k => by
  cases rx with
  | int i =>
    cases ry with
    | int j => exact .inl ⟨i, j, rfl, rfl, h.1, k _ _ H h.2 (Gw.refl H) (.int _)⟩
    | _ => exact h.elim
  | lst h1 n1 r1 =>
    cases ry with
    | int j =>
      refine .inr ⟨_, j, _, rfl, rfl, h1, h.1.1, h.1.2.1, by rw [r1.length]; exact h.1.2.2, fun p hp => ?_⟩
      exact k _ _ _ h.2 (Gw.new hp) (.lst upd_same (nB dom hp) ((r1.flat _).grow (Gw.new hp)))
    | _ => exact h.elim
  | _ => exact h.elim
theorem Rep.isN {g : Gc} {B : Addr → Prop} {H : Hp} {v : V} {d : D} (r : Rep g B H v d) : decide (v = .non) = d.isN := by
  cases r <;> rfl
theorem od_is : OpD K (fun x y H Q => y = .non ∧ Q (.bl (decide (x = .non))) H) dIs := od_plain fun g B H vx vy x y Q0 Q hK rx ry h k => by
  cases ry with
  | non => exact ⟨rfl, by rw [rx.isN]; exact k _ _ h (.bl _)⟩
  | _ => exact h.elim
theorem od_isNot : OpD K (fun x y H Q => y = .non ∧ Q (.bl (!decide (x = .non))) H) dIsNot := od_plain fun g B H vx vy x y Q0 Q hK rx ry h k => by
  cases ry with
  | non => exact ⟨rfl, by rw [rx.isN]; exact k _ _ h (.bl _)⟩
  | _ => exact h.elim
theorem Rep.scal {g : Gc} {B : Addr → Prop} {H : Hp} {v u : V} {d e : D} (r : Rep g B H v d) (q : Rep g B H u e) (h : D.scal d e = true) : L2.scal v u = true ∧ decide (v = u) = D.seq d e := by
  cases r <;> cases q <;> first | exact Bool.noConfusion h | (refine ⟨rfl, ?_⟩; first | rfl | (rw [Bool.eq_iff_iff]; simp [D.seq]))
def rEqDD (K : PySem.W.Frag) : R2 := fun x y H Q => rEq x y H Q ∨ rEqD K x y H Q
def rNeDD (K : PySem.W.Frag) : R2 := fun x y H Q => rNe x y H Q ∨ rNeD K x y H Q
theorem op_eqDD (hu : X.A.units + 64 < cLine) : OpR X (compareOp .Eq) (rEqDD X.K) := OpR.or op_eq (op_eqD hu)
theorem op_neDD (hu : X.A.units + 64 < cLine) : OpR X (compareOp .NotEq) (rNeDD X.K) := OpR.or op_ne (op_neD hu)
theorem od_eq : OpD K (rEqDD K) dEq := od_plain fun g B H vx vy x y Q0 Q hK rx ry h k => by
  subst hK
  unfold dEq at h
  by_cases c : D.scal x y = true
  · rw [if_pos c] at h
    obtain ⟨h1, h2⟩ := rx.scal ry c
    exact .inl ⟨h1, by rw [h2]; exact k _ _ h (.bl _)⟩
  · rw [if_neg c] at h
    obtain ⟨h1, h2, h3⟩ := h
    have p1 := Bool.and_eq_true_iff.mp h1
    have p2 := Bool.and_eq_true_iff.mp h2
    exact .inr ⟨x.py, y.py, rx.dp p1.1, ry.dp p2.1, p1.2, p2.2, k _ _ h3 (.bl _)⟩
theorem od_ne : OpD K (rNeDD K) dNe := od_plain fun g B H vx vy x y Q0 Q hK rx ry h k => by
  subst hK
  unfold dNe at h
  by_cases c : D.scal x y = true
  · rw [if_pos c] at h
    obtain ⟨h1, h2⟩ := rx.scal ry c
    exact .inl ⟨h1, by rw [h2]; exact k _ _ h (.bl _)⟩
  · rw [if_neg c] at h
    obtain ⟨h1, h2, h3⟩ := h
    have p1 := Bool.and_eq_true_iff.mp h1
    have p2 := Bool.and_eq_true_iff.mp h2
    exact .inr ⟨x.py, y.py, rx.dp p1.1, ry.dp p2.1, p1.2, p2.2, k _ _ h3 (.bl _)⟩
theorem Rep.flatV {g : Gc} {B : Addr → Prop} {H : Hp} {v : V} {d : D} (r : Rep g B H v d) (h : d.flat = true) : L2.flatV v = true := by
  cases r <;> first | rfl | exact Bool.noConfusion h
theorem Rep.eqF {g : Gc} {B : Addr → Prop} {H : Hp} {v u : V} {d e : D} (r : Rep g B H v d) (q : Rep g B H u e) (h : d.flat = true) (h' : e.flat = true) : L2.eqV v u = D.eqF d e := by
  cases r <;> first | exact Bool.noConfusion h | (cases q <;> first | exact Bool.noConfusion h' | rfl)
theorem Reps.inV {g : Gc} {B : Addr → Prop} {H : Hp} {u : V} {e : D} (q : Rep g B H u e) (h' : e.flat = true) : ∀ {vs : List V} {ds : List D}, Reps g B H vs ds → ds.all D.flat = true → vs.all L2.flatV = true ∧ L2.inV u vs = D.isIn e ds
  | _, _, .nil, _ => ⟨rfl, rfl⟩
  | _, _, .cons r t, h => by
    rw [List.all_cons, Bool.and_eq_true] at h
    obtain ⟨h1, h2⟩ := Reps.inV q h' t h.2
    refine ⟨by rw [List.all_cons, r.flatV h.1, h1]; rfl, ?_⟩
    unfold L2.inV D.isIn at h2 ⊢
    rw [List.any_cons, List.any_cons, r.eqF q h.1 h', h2]
theorem od_in (neg : Bool) : OpD K (rIn K neg) (dInN neg) := od_plain fun g B H vx vy x y Q0 Q hK rx ry h k => by
  subst hK
  cases ry with
  | lst h1 n1 r1 =>
    obtain ⟨p1, p2⟩ := r1.inV rx h.1 h.2.1
    exact ⟨_, _, rfl, .inl (.inl (.inl h1)), rx.flatV h.1, p1, by rw [p2]; exact k _ _ h.2.2 (.bl _)⟩
  | tup h1 n1 r1 =>
    obtain ⟨p1, p2⟩ := r1.inV rx h.1 h.2.1
    exact ⟨_, _, rfl, .inr (.inl (.inl h1)), rx.flatV h.1, p1, by rw [p2]; exact k _ _ h.2.2 (.bl _)⟩
  | wtup h1 r1 =>
    obtain ⟨p1, p2⟩ := r1.inV rx h.1 h.2.1
    exact ⟨_, _, rfl, .inr (.inr h1), rx.flatV h.1, p1, by rw [p2]; exact k _ _ h.2.2 (.bl _)⟩
  | _ => exact h.elim
theorem Reps.atI {g : Gc} {B : Addr → Prop} {H : Hp} {vs : List V} {ds : List D} {i : Int} {d : D} (r : Reps g B H vs ds) (h : L2.atI ds i = some d) : ∃ v, L2.atI vs i = some v ∧ Rep g B H v d := by
  unfold L2.atI at h ⊢
  rw [r.length]
  cases e : ixN ds.length i with
  | none => rw [e] at h; cases h
  | some j =>
    rw [e] at h
    obtain ⟨v, h1, h2⟩ := r.get (show ds[j]? = some d from h)
    exact ⟨v, h1, h2⟩
theorem od_ix : OpD K (rIx K) dIx := od_plain fun g B H vx vy x y Q0 Q hK rx ry h k => by
  subst hK
  cases rx with
  | lst h1 n1 r1 =>
    cases ry with
    | int i =>
      obtain ⟨d, h2, h3⟩ := h
      obtain ⟨v, e, r⟩ := r1.atI h2
      exact .inl ⟨_, _, i, v, rfl, rfl, .inl (.inl h1), e, k _ _ h3 r⟩
    | _ => exact h.elim
  | tup h1 n1 r1 =>
    cases ry with
    | int i =>
      obtain ⟨d, h2, h3⟩ := h
      obtain ⟨v, e, r⟩ := r1.atI h2
      exact .inr (.inl ⟨_, _, i, v, rfl, rfl, .inl (.inl h1), e, k _ _ h3 r⟩)
    | _ => exact h.elim
  | wtup h1 r1 =>
    cases ry with
    | int i =>
      obtain ⟨d, h2, h3⟩ := h
      obtain ⟨v, e, r⟩ := r1.atI h2
      exact .inr (.inl ⟨_, _, i, v, rfl, rfl, .inr h1, e, k _ _ h3 r⟩)
    | _ => exact h.elim
  | str z =>
    cases ry with
    | int i =>
      obtain ⟨c, h1, h2, h3⟩ := h
      exact .inr (.inr ⟨z, i, c, rfl, rfl, h1, h2, k _ _ h3 (.str _)⟩)
    | _ => exact h.elim
  | _ => exact h.elim
end
end Hm
set_option Elab.async false
set_option linter.all false
set_option maxRecDepth 100000
set_option maxHeartbeats 2000000
namespace Hm
open PySem L2

/-! ### built-ins -/
def dLen : List D → DK → Prop
  | [.lst ys], Q => Q (.int ys.length)
  | [.tup ys], Q => Q (.int ys.length)
  | [.str s], Q => s.length ≤ sizeLine ∧ Q (.int s.length)
  | _, _ => False
def dAbs : List D → DK → Prop
  | [.int i], Q => Q (.int (if i < 0 then -i else i))
  | _, _ => False
def dInt : List D → DK → Prop
  | [.int i], Q => Q (.int i)
  | [.bl k], Q => Q (.int (if k then 1 else 0))
  | _, _ => False
def dMax2 : List D → DK → Prop
  | [.int i, .int j], Q => Q (.int (if j > i then j else i))
  | _, _ => False
def dMin2 : List D → DK → Prop
  | [.int i, .int j], Q => Q (.int (if j < i then j else i))
  | _, _ => False
def dList : List D → DK → Prop
  | [.lst ys], Q => Q (.lst ys)
  | [.tup ys], Q => Q (.lst ys)
  | _, _ => False
section
variable {K : PySem.W.Frag}
theorem cd_plain {r : List V → Hp → VK → Prop} {op : List D → DK → Prop} (h : ∀ (g : Gc) (B : Addr → Prop) (H : Hp) (vs : List V) (xs : List D) (Q0 : DK) (Q : VK), g.K = K → Reps g B H vs xs → op xs Q0 → (∀ d v, Q0 d → Rep g B H v d → Q v H) → r vs H Q) : CallD K r op :=
  fun g B H vs xs Q0 Q hK dom rx h1 k => h g B H vs xs Q0 Q hK rx h1 fun d v q r => k d v H q (Gw.refl H) r
theorem cd_len : CallD K (fun xs H Q => ∃ x n, xs = [x] ∧ LenV K x H n ∧ Q (.int n) H) dLen := cd_plain fun g B H vs xs Q0 Q hK rx h k => by
  subst hK
  cases rx with
  | nil => exact h.elim
  | cons r t =>
    cases t with
    | cons _ _ => cases r <;> exact h.elim
    | nil =>
      cases r with
      | str s => exact ⟨_, _, rfl, ⟨h.1, rfl⟩, k _ _ h.2 (.int _)⟩
      | lst h1 n1 r1 => exact ⟨_, _, rfl, .inl ⟨_, .inl (.inl h1), rfl⟩, by rw [r1.length]; exact k _ _ h (.int _)⟩
      | tup h1 n1 r1 => exact ⟨_, _, rfl, .inr ⟨_, .inl (.inl h1), rfl⟩, by rw [r1.length]; exact k _ _ h (.int _)⟩
      | wtup h1 r1 => exact ⟨_, _, rfl, .inr ⟨_, .inr h1, rfl⟩, by rw [r1.length]; exact k _ _ h (.int _)⟩
      | _ => exact h.elim
theorem cd_abs : CallD K (fun xs H Q => ∃ i, xs = [.int i] ∧ Q (.int (if i < 0 then -i else i)) H) dAbs := cd_plain fun g B H vs xs Q0 Q hK rx h k => by
  cases rx with
  | nil => exact h.elim
  | cons r t =>
    cases t with
    | cons _ _ => cases r <;> exact h.elim
    | nil =>
      cases r with
      | int i => exact ⟨i, rfl, k _ _ h (.int _)⟩
      | _ => exact h.elim
theorem cd_int : CallD K (fun xs H Q => (∃ i, xs = [.int i] ∧ Q (.int i) H) ∨ ∃ k, xs = [.bl k] ∧ Q (.int (if k then 1 else 0)) H) dInt := cd_plain fun g B H vs xs Q0 Q hK rx h k => by
  cases rx with
  | nil => exact h.elim
  | cons r t =>
    cases t with
    | cons _ _ => cases r <;> exact h.elim
    | nil =>
      cases r with
      | int i => exact .inl ⟨i, rfl, k _ _ h (.int _)⟩
      | bl i => exact .inr ⟨i, rfl, k _ _ h (.int _)⟩
      | _ => exact h.elim
theorem cd_max2 : CallD K (fun xs H Q => ∃ i j, xs = [.int i, .int j] ∧ Q (.int (if j > i then j else i)) H) dMax2 := cd_plain fun g B H vs xs Q0 Q hK rx h k => by
  unfold dMax2 at h
  split at h
  · cases rx with
    | cons r t => cases t with
      | cons r2 t2 => cases t2; cases r; cases r2; exact ⟨_, _, rfl, k _ _ h (.int _)⟩
  · exact h.elim
theorem cd_min2 : CallD K (fun xs H Q => ∃ i j, xs = [.int i, .int j] ∧ Q (.int (if j < i then j else i)) H) dMin2 := cd_plain fun g B H vs xs Q0 Q hK rx h k => by
  unfold dMin2 at h
  split at h
  · cases rx with
    | cons r t => cases t with
      | cons r2 t2 => cases t2; cases r; cases r2; exact ⟨_, _, rfl, k _ _ h (.int _)⟩
  · exact h.elim
end

/-! ### isinstance against a built-in class -/
def D.tyS : D → Option String
  | .non => some "NoneType"
  | .bl _ => some "bool"
  | .int _ => some "int"
  | .str _ => some "str"
  | .tup _ => some "tuple"
  | .lst _ => some "list"
  | .dct _ => some "dict"
  | _ => none
def isiO (T : String) : Option String → Bool
  | some a => a == T || (a == "bool" && T == "int")
  | none => false
def D.isi (T : String) (d : D) : Bool := isiO T d.tyS
def dIsi (T : String) (x : D) (Q : DK) : Prop := x.tyS.isSome = true ∧ Q (.bl (x.isi T))
theorem Rep.ty {g : Gc} {B : Addr → Prop} {H : Hp} {v : V} {d : D} {a : String} (r : Rep g B H v d) (h : d.tyS = some a) : TyX g.K H v (.type a) := by
  cases r with
  | non => cases h; exact .base .non
  | bl b => cases h; exact .base (.bl b)
  | int i => cases h; exact .base (.int i)
  | str s => cases h; exact .base (.str s)
  | tup h1 n1 r1 => cases h; exact .base (.tup h1)
  | wtup h1 r1 =>
    cases h
    obtain ⟨o, its, n, e, c, _⟩ := h1
    exact .kTuple e c
  | lst h1 n1 r1 => cases h; exact .base (.lst h1)
  | dct h1 n1 r1 => cases h; exact .base (.dK h1)
  | exc0 => cases h
  | exc1 => cases h
  | src => cases h
def isiT : List String := ["int", "bool", "str", "tuple", "list", "dict"]
def isiA : List String := ["NoneType", "bool", "int", "str", "tuple", "list", "dict"]
theorem kitB_all : (isiA.all fun a => isiT.all fun T => decide (kitB a T = some (a == T || (a == "bool" && T == "int")))) = true := by decide +kernel
theorem kitB_is {a T : String} (ha : a ∈ isiA) (hT : T ∈ isiT) : kitB a T = some (a == T || (a == "bool" && T == "int")) := by
  have h := List.all_eq_true.mp kitB_all a ha
  exact of_decide_eq_true (List.all_eq_true.mp h T hT)
theorem tyS_mem {d : D} {a : String} (h : d.tyS = some a) : a ∈ isiA := by
  cases d <;> first | (cases h; decide) | cases h
section
variable {f : FrC} {X : Cx} {W : WX} {ca cb cc : Nat} {a b c : Expr} {es : List Expr} {ma mb mc : ME} {ta tb tc : MT} {mas : MA} {pos : Pos}
theorem ce_isi {T : String} {x : Str} {p p2 : Pos} (hK : f.g.K = X.K) (hT : T ∈ isiT) (hg : Gl X "isinstance") (hm : X.mg "isinstance" = none) (hg2 : Gl X x) (hm2 : X.mg x = none) (hv2 : bootBuiltins x = some (.type T)) (ha : CE f X W ca a ma)
    (hn : x ≠ "__name__" := by decide) (hdb : (x == ("__debug__" : Str)) = false := by decide) (he : starEach [a, .Name x p2] X.env = (false, eval a X.env) :: starEach [.Name x p2] X.env := by rfl) (he2 : starEach [.Name x p2] X.env = (false, eval (.Name x p2) X.env) :: starEach [] X.env := by rfl)
    (hpl : (backTo pos (starEach [.Name x p2] X.env)).any (·.1) = false := by rfl) : CE f X W ca (.Call (.Name "isinstance" p) [a, .Name x p2] [] pos) (mUn (dIsi T) ma) :=
  PE.imp (pe_callB call_isi hg hm (by decide +kernel) (pa_cons ha (pa_cons (pe_bltn hg2 hm2 hv2 (show RelV (.ty T) (.type T) from rfl) hn hdb) pa_nil he2) he) (by decide) (by decide) he hpl) fun σ H Q h => by
    obtain ⟨B, n, ρ, Q0, W0, R, hm, hq, hw⟩ := h
    refine rd_i (m := n) R hm (fun x v H1 h1 e1 R1 r1 => ?_) hw
    obtain ⟨s, hs⟩ := Option.isSome_iff_exists.mp h1.1
    refine ⟨_, _, _, _, x.isi T, rfl, .ty T, hK ▸ r1.ty hs, ?_, hq _ _ H1 h1.2 e1 R1.ok.src (.bl _)⟩
    unfold D.isi
    rw [hs]
    exact kit_ty (kitB_is (tyS_mem hs) hT)
/-- a name of the module's top that holds an int, a text ..; a tuple -/
theorem ce_glob {x : Str} {v : V} {d : D} {u : Value} (hg : Gl X x) (hm : X.mg x = some u) (r : RelV v u) (hr : ∀ B H, Rep f.g B H v d) (hd : (x == ("__debug__" : Str)) = false := by decide) : CE f X W 0 (.Name x pos) (mC d) := ce_tC (pe_glob hg hm r hd) hr

/-! slices -/
abbrev MO := Rho → (Option Int → Prop) → XKD → Prop
def mNoP : MO := fun _ Q _ => Q none
def mPart (e : ME) : MO := fun ρ Q W => e ρ (fun d => asI d fun i => Q (some i)) W
def RO (f : FrC) (W : WX) (c : Nat) (m : MO) : TO := fun σ H Q => ∃ (B : Addr → Prop) (n : Nat) (ρ : Rho) (Q0 : Option Int → Prop) (W0 : XKD), Rel f B σ H ρ (n + c) ∧ m ρ Q0 W0 ∧
  (∀ b H', Q0 b → Kp f.g H H' → SrcOk f.g H' n → Q b H') ∧ (∀ x cls dd H', W0 x → Kp f.g H H' → SrcOk f.g H' n → ErrAt f.g B H' cls dd x → W cls dd σ H')
theorem PO.imp {e : Option Expr} {t t' : TO} (h : PO X e t) (k : ∀ σ H Q, t' σ H Q → t σ H Q) : PO X e t' := ⟨fun pins s σ H Q I q => h.run pins s σ H Q I (k σ H Q q)⟩
theorem co_none : PO X none (RO f W 0 mNoP) := PO.imp po_none fun σ H Q h => by
  obtain ⟨B, n, ρ, Q0, W0, R, hm, hq, hw⟩ := h
  exact hq none H hm (Kp.refl H) R.ok.src
theorem co_some (h : CE f X W ca a ma) : PO X (some a) (RO f W ca (mPart ma)) := PO.imp (po_some h) fun σ H Q h => by
  obtain ⟨B, n, ρ, Q0, W0, R, hm, hq, hw⟩ := h
  refine rd_i (m := n) R hm (fun x v H1 h1 e1 R1 r1 => ?_) hw
  cases r1 with
  | int i => exact ⟨i, rfl, hq _ H1 h1 e1 R1.ok.src⟩
  | _ => exact h1.elim
def dSl : D → Option Int → Option Int → DK → Prop
  | .lst xs, lo, hi, Q => Q (.lst (cutD xs lo hi))
  | .tup xs, lo, hi, Q => Q (.tup (cutD xs lo hi))
  | .str z, lo, hi, Q => z.length ≤ sizeLine ∧ Q (.str (cutS z lo hi))
  | _, _, _, _ => False
def mSl (e : ME) (lo hi : MO) : ME := fun ρ Q W => e ρ (fun x => lo ρ (fun l => hi ρ (fun u => dSl x l u Q) W) W) W
theorem cut_reps {g : Gc} {B : Addr → Prop} {H : Hp} {vs : List V} {ds : List D} (r : Reps g B H vs ds) (lo hi : Option Int) : Reps g B H (cutV vs lo hi) (cutD ds lo hi) := by
  unfold cutV cutD
  rw [r.length]
  exact (r.drop _).take _
theorem ce_sl {lo hi : Option Expr} {ml mh : MO} {p2 : Pos} (hK : f.g.K = X.K) (ha : CE f X W ca a ma) (hl : PO X lo (RO f W cb ml)) (hh : PO X hi (RO f W cc mh)) : CE f X W (ca + cb + cc) (.Subscript a (.Slice lo hi none p2) pos) (mSl ma ml mh) :=
  PE.imp (pe_slice (SlR.or sl_list (SlR.or sl_tupA sl_str)) ha hl hh) fun σ H Q h => by
    obtain ⟨B, n, ρ, Q0, W0, R, hm, hq, hw⟩ := h
    refine rd_i (m := n + cc + cb) (R.mono (by omega)) hm (fun x v H1 h1 e1 R1 r1 => ?_) (fun x cls dd H' q e s er => hw x cls dd H' q e (s.mono (by omega)) er)
    refine ⟨B, n + cc, ρ, _, W0, R1, h1, fun l H2 h2 e2 s2 => ?_, fun x cls dd H' q e s er => hw x cls dd H' q (e1.trans e) (s.mono (by omega)) er⟩
    have R2 : Rel f B σ H2 ρ (n + cc) := R1.kp e2 s2
    refine ⟨B, n, ρ, _, W0, R2, h2, fun u H3 h3 e3 s3 => ?_, fun x cls dd H' q e s er => hw x cls dd H' q ((e1.trans e2).trans e) s er⟩
    have R3 : Rel f B σ H3 ρ n := R2.kp e3 s3
    have r3 : Rep f.g B H3 v x := (r1.kp R1.ok e2).kp R2.ok e3
    have e4 := (e1.trans e2).trans e3
    cases r3 with
    | lst ha nb rs =>
      refine .inl ⟨_, _, rfl, .inl (.inl ha), fun p hp => ?_⟩
      exact hq _ _ _ h3 (e4.trans (Gw.new hp).kp) ((Gw.new hp).src R3.ok.src) (.lst upd_same (nB R3.ok.dom hp) ((cut_reps rs l u).grow (Gw.new hp)))
    | tup ha nb rs =>
      refine .inr (.inl ⟨_, _, rfl, .inl (.inl ha), fun z => ?_, fun _ p hp => ?_⟩)
      · rename_i xs ds
        have e : cutD ds l u = ds := by
          unfold cutD
          rw [← rs.length, z.1, z.2, List.drop_zero, Nat.sub_zero, rs.length]
          exact List.take_length
        have h3' : Q0 (.tup (cutD ds l u)) := h3
        rw [e] at h3'
        exact hq _ _ _ h3' e4 R3.ok.src (.tup ha nb rs)
      · exact hq _ _ _ h3 (e4.trans (Gw.new hp).kp) ((Gw.new hp).src R3.ok.src) (.tup upd_same (nB R3.ok.dom hp) ((cut_reps rs l u).grow (Gw.new hp)))
    | wtup ha rs =>
      refine .inr (.inl ⟨_, _, rfl, .inr (hK ▸ ha), fun z => ?_, fun _ p hp => ?_⟩)
      · rename_i xs ds
        have e : cutD ds l u = ds := by
          unfold cutD
          rw [← rs.length, z.1, z.2, List.drop_zero, Nat.sub_zero, rs.length]
          exact List.take_length
        have h3' : Q0 (.tup (cutD ds l u)) := h3
        rw [e] at h3'
        exact hq _ _ _ h3' e4 R3.ok.src (.wtup ha rs)
      · exact hq _ _ _ h3 (e4.trans (Gw.new hp).kp) ((Gw.new hp).src R3.ok.src) (.tup upd_same (nB R3.ok.dom hp) ((cut_reps rs l u).grow (Gw.new hp)))
    | str z => exact .inr (.inr ⟨z, rfl, h3.1, hq _ _ _ h3.2 e4 R3.ok.src (.str _)⟩)
    | _ => exact h3.elim
end
end Hm
set_option Elab.async false
set_option linter.all false
set_option maxRecDepth 100000
set_option maxHeartbeats 2000000
namespace Hm
open PySem L2

section
variable {f : FrC} {B : Addr → Prop} {σ : St} {H H' : Hp} {ρ : Rho} {n m : Nat} {p : Addr}
theorem Okk.h0 (k : Okk f B H n) (hp : H p = none) : f.H0 p = none := by
  cases z : f.H0 p with
  | none => rfl
  | some o =>
    by_cases hs : InS f.g p
    · exact absurd hp (k.dom p (k.inB hs))
    · rw [k.keep p o hs z] at hp; cases hp
theorem RepsK.avoid {g : Gc} {v : List (Key × V)} {d : List (Key × D)} (hp : H p = none) (r : RepsK g B H v d) : RepsK g (fun a => B a ∨ a = p) H v d :=
  r.move fun a o h nb => ⟨h, fun z => z.elim nb (ne_of_none h hp)⟩
/-- a new object that is kept for oneself -/
theorem Rel.fresh (R : Rel f B σ H ρ n) (hp : H p = none) (o : HO) : Rel f (fun a => B a ∨ a = p) σ (upd H p o) ρ n := by
  have gw : Gw H (upd H p o) := Gw.new hp
  refine ⟨⟨R.ok.s0, R.ok.d0, fun a h => .inl (R.ok.b0 a h), fun a h => ?_, fun a h => ?_, R.ok.keep.trans gw.kp, gw.src R.ok.src⟩, R.len, fun i x v h1 h2 => ?_, R.inj⟩
  · rcases h with h | rfl
    · exact R.ok.ow a h
    · exact .inr (R.ok.h0 hp)
  · rcases h with h | rfl
    · rw [upd_ne (fun z : a = p => R.ok.dom a h (by rw [z]; exact hp))]
      exact R.ok.dom a h
    · rw [upd_same]; exact fun z => nomatch z
  · have q := R.sl i x v h1 h2
    cases x with
    | un => trivial
    | dat d =>
      obtain ⟨v, e1, r⟩ := q
      exact ⟨v, e1, (r.avoid hp).grow gw⟩
    | own ds =>
      obtain ⟨p', vs, e1, b, h0, hp', r⟩ := q
      exact ⟨p', vs, e1, .inl b, h0, gw _ _ hp', (r.avoid hp).grow gw⟩
    | ownd ds =>
      obtain ⟨p', vs, e1, b, h0, hp', r⟩ := q
      exact ⟨p', vs, e1, .inl b, h0, gw _ _ hp', (r.avoid hp).grow gw⟩
theorem Rep.upd {g : Gc} {v : V} {d : D} {o : HO} (hB : B p) (r : Rep g B H v d) : Rep g B (upd H p o) v d := r.move fun a u h nb => ⟨by rw [upd_ne (fun z => nb (by rw [z]; exact hB))]; exact h, nb⟩
theorem Reps.upd {g : Gc} {v : List V} {d : List D} {o : HO} (hB : B p) (r : Reps g B H v d) : Reps g B (upd H p o) v d := r.move fun a u h nb => ⟨by rw [upd_ne (fun z => nb (by rw [z]; exact hB))]; exact h, nb⟩
theorem RepsK.upd {g : Gc} {v : List (Key × V)} {d : List (Key × D)} {o : HO} (hB : B p) (r : RepsK g B H v d) : RepsK g B (upd H p o) v d := r.move fun a u h nb => ⟨by rw [upd_ne (fun z => nb (by rw [z]; exact hB))]; exact h, nb⟩
theorem SrcOk.upd {g : Gc} {o : HO} (hS : ¬ InS g p) (h : SrcOk g H n) : SrcOk g (upd H p o) n := fun s c e => by
  obtain ⟨cells, turn, h0, h1, h2, h3⟩ := h s c e
  exact ⟨cells, turn, h0, by rw [upd_ne fun z => hS ⟨s, c, e, .inl z.symm⟩]; exact h1, by rw [upd_ne fun z => hS ⟨s, c, e, .inr z.symm⟩]; exact h2, h3⟩
theorem Okk.upd {o : HO} (k : Okk f B H n) (hB : B p) (h0 : f.H0 p = none) : Okk f B (upd H p o) n := by
  have hS : ¬ InS f.g p := k.nS h0
  refine ⟨k.s0, k.d0, k.b0, k.ow, fun a h => ?_, fun a u ns h => ?_, k.src.upd hS⟩
  · by_cases e : a = p
    · rw [e, upd_same]; exact fun z => nomatch z
    · rw [upd_ne e]; exact k.dom a h
  · rw [upd_ne fun z => by rw [z, h0] at h; cases h]
    exact k.keep a u ns h
/-- an object of one's own that no slot holds is written -/
theorem Rel.upd {o : HO} (R : Rel f B σ H ρ n) (hB : B p) (h0 : f.H0 p = none) (hno : ∀ (i : Nat) x, ρ[i]? = some x → x.isOwn = true → σ[i]? ≠ some (some (.ref p))) : Rel f B σ (upd H p o) ρ n := by
  refine ⟨R.ok.upd hB h0, R.len, fun i x v h1 h2 => ?_, R.inj⟩
  have q := R.sl i x v h1 h2
  cases x with
  | un => trivial
  | dat d =>
    obtain ⟨v, e1, r⟩ := q
    exact ⟨v, e1, r.upd hB⟩
  | own ds =>
    obtain ⟨p', vs, e1, b, h0', hp', r⟩ := q
    have ne : p' ≠ p := fun z => hno i _ h1 rfl (by rw [h2, e1, z])
    exact ⟨p', vs, e1, b, h0', by rw [upd_ne ne]; exact hp', r.upd hB⟩
  | ownd ds =>
    obtain ⟨p', vs, e1, b, h0', hp', r⟩ := q
    have ne : p' ≠ p := fun z => hno i _ h1 rfl (by rw [h2, e1, z])
    exact ⟨p', vs, e1, b, h0', by rw [upd_ne ne]; exact hp', r.upd hB⟩
theorem Rel.unset {i : Nat} {o : Option V} (R : Rel f B σ H ρ n) : Rel f B (σ.set i o) H (ρ.set i .un) n :=
  ⟨R.ok, by rw [List.length_set, List.length_set, R.len], fun j x v h1 h2 => by
    rcases set_cases h1 with ⟨e1, e2, _⟩ | ⟨e1, h1⟩
    · subst e2; trivial
    · rcases set_cases h2 with ⟨e3, _⟩ | ⟨_, h2⟩
      · exact absurd e3 e1
      · exact R.sl j x v h1 h2, fun a b p x y ne h1 o1 h2 o2 s1 => by
    rcases set_cases h1 with ⟨e1, e2, _⟩ | ⟨e1, h1⟩
    · subst e2; cases o1
    · rcases set_cases h2 with ⟨e3, e4, _⟩ | ⟨e3, h2⟩
      · subst e4; cases o2
      · rw [List.getElem?_set_ne e1] at s1
        rw [List.getElem?_set_ne e3]
        exact R.inj a b p x y ne h1 o1 h2 o2 s1⟩
end

/-! ### list comprehensions -/
def wipeD (ρ : Rho) : List Nat → Rho
  | [] => ρ
  | v :: vs => (wipeD ρ vs).set v .un
theorem Rel.wipe {f : FrC} {B : Addr → Prop} {σ : St} {H : Hp} {ρ : Rho} {n : Nat} (R : Rel f B σ H ρ n) : ∀ vs : List Nat, Rel f B (L2.wipe σ vs) H (wipeD ρ vs) n
  | [] => R
  | _ :: vs => (Rel.wipe R vs).unset
theorem wipe_get (σ : St) (i : Nat) : ∀ vs : List Nat, (L2.wipe σ vs)[i]? = if i ∈ vs then (σ[i]?).map (fun _ => none) else σ[i]?
  | [] => by rw [if_neg (by simp)]; rfl
  | v :: vs => by
    have ih := wipe_get σ i vs
    show ((L2.wipe σ vs).set v none)[i]? = _
    by_cases e : v = i
    · subst e
      rw [if_pos List.mem_cons_self]
      by_cases hl : v < σ.length
      · rw [List.getElem?_set_self (by rw [wipe_length]; exact hl), List.getElem?_eq_getElem hl]; rfl
      · rw [List.getElem?_eq_none (by rw [List.length_set, wipe_length]; omega), List.getElem?_eq_none (by omega)]; rfl
    · rw [List.getElem?_set_ne e, ih]
      by_cases hm : i ∈ vs
      · rw [if_pos hm, if_pos (List.mem_cons_of_mem _ hm)]
      · rw [if_neg hm, if_neg (by simp only [List.mem_cons, not_or]; exact ⟨fun z => e z.symm, hm⟩)]
theorem wipe_agr {σ σ' : St} {is vs : List Nat} (h : ∀ i ∈ is, i ∈ vs) (ag : Agr is (L2.wipe σ vs) σ') : L2.wipe σ' vs = L2.wipe σ vs := by
  apply List.ext_getElem?
  intro i
  rw [wipe_get, wipe_get]
  have hl : σ'.length = σ.length := by rw [ag.1, wipe_length]
  by_cases hm : i ∈ vs
  · rw [if_pos hm, if_pos hm]
    by_cases hi : i < σ.length
    · rw [List.getElem?_eq_getElem hi, List.getElem?_eq_getElem (by rw [hl]; exact hi)]; rfl
    · rw [List.getElem?_eq_none (by omega), List.getElem?_eq_none (by omega)]
  · rw [if_neg hm, if_neg hm, ag.2 i fun z => hm (h i z), wipe_get, if_neg hm]
def mYes : MT := fun _ Q _ => Q true
def mLcL (g : MG) (t : MT) (e : ME) (ρ : Rho) : List D → List D → (List D → Prop) → Prop
  | [], acc, Q => Q acc
  | x :: r, acc, Q => g x ρ fun ρ' => t ρ' (fun b => if b = true then e ρ' (fun y => acc.length < sizeLine ∧ mLcL g t e ρ r (acc ++ [y]) Q) (fun _ => False) else mLcL g t e ρ r acc Q) (fun _ => False)
def mLc (it : ME) (g : MG) (t : MT) (e : ME) (vs : List Nat) : MA := fun ρ Q W => it ρ (fun d => asL d fun xs => mLcL g t e (wipeD ρ vs) xs [] Q) W
def mLcB (N : Nat) (it : ME) (g : MG) (t : MT) (e : ME) (vs : List Nat) : MA := fun ρ Q W => it ρ (fun d => asL d fun xs => xs.length ≤ N ∧ mLcL g t e (wipeD ρ vs) xs [] Q) W
def mLcT (it : ME) (g : MG) (t : MT) (e : ME) (vs : List Nat) : MA := fun ρ Q W => it ρ (fun d => asT d fun xs => mLcL g t e (wipeD ρ vs) xs [] Q) W
def mLcR1 (a : ME) (g : MG) (t : MT) (e : ME) (vs : List Nat) : MA := fun ρ Q W => a ρ (fun d => asI d fun j => (-(2 ^ 62) ≤ j ∧ j < 2 ^ 62) ∧ mLcL g t e (wipeD ρ vs) (rngD 0 j.toNat) [] Q) W
def mLcR2 (a b : ME) (g : MG) (t : MT) (e : ME) (vs : List Nat) : MA := fun ρ Q W => a ρ (fun x => b ρ (fun y => asI x fun i => asI y fun j => (-(2 ^ 62) ≤ i ∧ i < 2 ^ 62 ∧ -(2 ^ 62) ≤ j ∧ j < 2 ^ 62) ∧ mLcL g t e (wipeD ρ vs) (rngD i (j - i).toNat) [] Q) W) W
abbrev W0F : WX := fun _ _ _ _ => False
section
variable {f : FrC} {X : Cx} {W : WX} {ca cb cc ct ce : Nat} {a b c : Expr} {ma mb me : ME} {mt : MT} {pos : Pos} {B : Addr → Prop} {σ : St} {H : Hp} {ρ : Rho} {n k : Nat} {Dl : Addr} {t : TG} {g : MG} {is vs : List Nat} {Q0 : List D → Prop}
/-- the state of a comprehension: the list so far at Dl -/
structure LcS (f : FrC) (B : Addr → Prop) (σ : St) (ρ : Rho) (Dl : Addr) (H1 H : Hp) (k : Nat) (acc : List D) : Prop where
  R : Rel f (fun a => B a ∨ a = Dl) σ H ρ k
  h0 : f.H0 Dl = none
  no : ∀ (i : Nat) x, ρ[i]? = some x → x.isOwn = true → σ[i]? ≠ some (some (.ref Dl))
  li : ∃ av, H Dl = some (.lst av) ∧ Reps f.g (fun a => B a ∨ a = Dl) H av acc
  kp : Kp f.g H1 H
  fr : H1 Dl = none
theorem LcS.start (R : Rel f B σ H ρ n) (hD : H Dl = none) (o : Nat := n) : LcS f B σ ρ Dl H (upd H Dl (.lst [])) n [] := by
  refine ⟨R.fresh hD _, R.ok.h0 hD, fun i x h1 h2 h3 => ?_, ⟨[], upd_same, .nil⟩, (Gw.new hD).kp, hD⟩
  have q := R.sl i x _ h1 h3
  cases x with
  | un => cases h2
  | dat d => cases h2
  | own ds =>
    obtain ⟨p', vs, e1, b, h0, hp', r⟩ := q
    cases e1
    rw [hD] at hp'; cases hp'
  | ownd ds =>
    obtain ⟨p', vs, e1, b, h0, hp', r⟩ := q
    cases e1
    rw [hD] at hp'; cases hp'
theorem lc_turn {H1 : Hp} {acc r : List D} {x : V} {d : D} {Pv : Hp → Prop} (hd : TgD f is t g) (his : ∀ i ∈ is, i ∈ vs) (S : LcS f B (L2.wipe σ vs) ρ Dl H1 H (k + (ct + ce)) acc) (rx : Rep f.g (fun a => B a ∨ a = Dl) H x d)
    (h : mLcL g mt me ρ (d :: r) acc Q0) (next : ∀ acc' H', mLcL g mt me ρ r acc' Q0 → LcS f B (L2.wipe σ vs) ρ Dl H1 H' k acc' → (∀ a o, a ≠ Dl → ¬ InS f.g a → H a = some o → H' a = some o) → Pv H') :
    t x (L2.wipe σ vs) H fun σ2 H2 => L2.wipe σ2 vs = L2.wipe σ vs ∧ RT f W0F ct mt σ2 H2 fun b H3 =>
      if b = true then RD f W0F ce me σ2 H3 fun y H4 => ∃ acc, H4 Dl = some (.lst acc) ∧ acc.length < sizeLine ∧ Pv (upd H4 Dl (.lst (acc ++ [y]))) else Pv H3 := by
  obtain ⟨av, hl, ra⟩ := S.li
  have nS : ¬ InS f.g Dl := S.R.ok.nS S.h0
  refine hd _ _ H ρ _ x d _ _ S.R rx h fun σ2 ρ2 q R2 ag => ⟨wipe_agr his ag, ?_⟩
  refine rt_i (m := k + ce) (R2.mono (by omega)) q (fun b H3 h3 e3 R3 => ?_) fun x cls dd H' z _ _ _ => z.elim
  cases b with
  | false =>
    rw [if_neg Bool.false_ne_true] at h3 ⊢
    exact next _ _ h3 ⟨S.R.kp e3 (R3.ok.src.mono (by omega)), S.h0, S.no, ⟨av, e3 _ _ nS hl, ra.kp S.R.ok e3⟩, S.kp.trans e3, S.fr⟩ fun a o _ ns ha => e3 a o ns ha
  | true =>
    rw [if_pos rfl] at h3 ⊢
    refine rd_i (m := k) R3 h3 (fun y v H4 h4 e4 R4 r4 => ?_) fun x cls dd H' z _ _ _ => z.elim
    have e : Kp f.g H H4 := e3.trans e4
    refine ⟨av, e _ _ nS hl, by rw [ra.length]; exact h4.1, ?_⟩
    have hB : (fun a => B a ∨ a = Dl) Dl := .inr rfl
    refine next _ _ h4.2 ⟨(S.R.kp e R4.ok.src).upd hB S.h0 S.no, S.h0, S.no, ⟨_, upd_same, ((ra.kp S.R.ok e).append (.cons r4 .nil)).upd hB⟩, fun a o ns ha => ?_, S.fr⟩ fun a o ne ns ha => by rw [upd_ne ne]; exact e a o ns ha
    rw [upd_ne (fun z : a = Dl => by rw [z, S.fr] at ha; cases ha)]
    exact (S.kp.trans e) a o ns ha
/-- the end of it -/
theorem lc_end {H0 H1 : Hp} {acc : List D} {Q : VK} {m : Nat} (S : LcS f B σ ρ Dl H1 H k acc) (q : Q0 acc) (e : Kp f.g H0 H1) (R0 : Okk f B H1 m) (hk : n ≤ k)
    (hq : ∀ ds p vs H', Q0 ds → Kp f.g H0 H' → SrcOk f.g H' n → H0 p = none → H' p = some (.lst vs) → Reps f.g (fun a => B a ∨ a = p) H' vs ds → Q (.ref p) H') : Q (.ref Dl) H := by
  obtain ⟨av, hl, ra⟩ := S.li
  refine hq acc Dl av H q (e.trans S.kp) (S.R.ok.src.mono hk) ?_ hl ra
  cases z : H0 Dl with
  | none => rfl
  | some o =>
    have := e Dl o (S.R.ok.nS S.h0) z
    rw [S.fr] at this; cases this
/-- the parts of a comprehension under its block -/
structure LcP (f : FrC) (X : Cx) (scope : Scope) (own : List (Str × Nat)) (tg : Expr) (ifs : List Expr) (elt : Expr) (ct ce : Nat) (t : TG) (is : List Nat) (g : MG) (mt : MT) (me : ME) : Prop where
  ok : BlkOk X.N X.env.scope scope own
  hg : ∀ (s : Shared) (H : Hp) (C : Addr) (cl : List (Str × Addr)) (fp : List Addr), PG (X.blk s H scope (compEnvC scope cl C X.env) fp) tg t
  hd : TgD f is t g
  hi : ∀ i ∈ is, i ∈ own.map (·.2)
  ht : ∀ (s : Shared) (H : Hp) (C : Addr) (cl : List (Str × Addr)) (fp : List Addr), PTs (X.blk s H scope (compEnvC scope cl C X.env) fp) ifs (RT f W0F ct mt)
  he : ∀ (s : Shared) (H : Hp) (C : Addr) (cl : List (Str × Addr)) (fp : List Addr), PE (X.blk s H scope (compEnvC scope cl C X.env) fp) elt (RD f W0F ce me)
theorem PTs.imp {X : Cx} {e : List Expr} {t t' : TT} (h : PTs X e t) (k : ∀ σ H Q, t' σ H Q → t σ H Q) : PTs X e t' := ⟨fun pins s σ H Q I q => h.run pins s σ H Q I (k σ H Q q)⟩
theorem cts_nil {X : Cx} : PTs X [] (RT f W 0 mYes) := PTs.imp pts_nil fun σ H Q h => by
  obtain ⟨B, n, ρ, Q0, W0, R, hm, hq, hw⟩ := h
  exact hq true H hm (Kp.refl H) R.ok.src
theorem cts_one {X : Cx} (h : CT f X W ct c mt) : PTs X [c] (RT f W ct mt) := pts_one h
theorem rl_lcR {vs : List Nat} {lo : Int} {len L : Nat} {H0 : Hp} {Q : VK} (hd : TgD f is t g) (his : ∀ i ∈ is, i ∈ vs) (R : Rel f B σ H ρ (n + L * (ct + ce))) (hz : len ≤ L) (e : Kp f.g H0 H) (h : mLcL g mt me (wipeD ρ vs) (rngD lo len) [] Q0)
    (hq : ∀ ds p vs H', Q0 ds → Kp f.g H0 H' → SrcOk f.g H' n → H0 p = none → H' p = some (.lst vs) → Reps f.g (fun a => B a ∨ a = p) H' vs ds → Q (.ref p) H') (hD : H Dl = none) :
    ∃ Wd : Nat → Nat → Hp → Prop, (∃ m, Wd 0 m (L2.upd H Dl (.lst []))) ∧ ∀ i m H, Wd i m H →
      ((Itr lo len).stop i H ∧ Q (.ref Dl) H) ∨ ((Itr lo len).go i H ∧ ∃ Nx : Hp → Prop, (∀ H', Nx H' → ∃ m', m' < m ∧ Wd (i + 1) m' H') ∧ ∀ x H', (Itr lo len).yld i H x H' → t x (L2.wipe σ vs) H' fun σ2 H2 => L2.wipe σ2 vs = L2.wipe σ vs ∧ RT f W0F ct mt σ2 H2 fun b H3 =>
        if b = true then RD f W0F ce me σ2 H3 fun y H4 => ∃ acc, H4 Dl = some (.lst acc) ∧ acc.length < sizeLine ∧ Nx (L2.upd H4 Dl (.lst (acc ++ [y]))) else Nx H3) := by
  have R' := R.wipe vs
  refine lc_range (lo := lo) (n := len) (Qd := fun H => Q (.ref Dl) H) (fun i H' => ∃ acc, LcS f B (L2.wipe σ vs) (wipeD ρ vs) Dl H H' (n + (L - i) * (ct + ce)) acc ∧ mLcL g mt me (wipeD ρ vs) ((rngD lo len).drop i) acc Q0)
    ⟨[], LcS.start R' hD, h⟩ (fun i H' hi' hP => ?_) (fun H' hP => ?_)
  · obtain ⟨acc, S, hf⟩ := hP
    rw [rng_drop hi'] at hf
    refine lc_turn (k := n + (L - (i + 1)) * (ct + ce)) hd his ⟨S.R.mono (mul_step (by omega)), S.h0, S.no, S.li, S.kp, S.fr⟩ (.int _) hf fun acc' H2 q S' _ => ⟨acc', S', q⟩
  · obtain ⟨acc, S, hf⟩ := hP
    have e0 : (rngD lo len).drop len = [] := List.drop_of_length_le (by unfold rngD; rw [List.length_map, List.length_range]; exact Nat.le_refl _)
    rw [e0] at hf
    exact lc_end S hf e R.ok (Nat.le_add_right _ _) hq
theorem rl_lcL {vs : List Nat} {L : Nat} {H0 : Hp} {Q : VK} {p : Addr} {xs : List V} {ds : List D} (K : PySem.W.Frag) (hd : TgD f is t g) (his : ∀ i ∈ is, i ∈ vs) (R : Rel f B σ H ρ (n + L * (ct + ce))) (hz : xs.length ≤ L) (e : Kp f.g H0 H) (h : mLcL g mt me (wipeD ρ vs) ds [] Q0)
    (hp : H p = some (.lst xs)) (nb : ¬ B p) (rs : Reps f.g B H xs ds)
    (hq : ∀ ds p vs H', Q0 ds → Kp f.g H0 H' → SrcOk f.g H' n → H0 p = none → H' p = some (.lst vs) → Reps f.g (fun a => B a ∨ a = p) H' vs ds → Q (.ref p) H') (hD : H Dl = none) :
    ∃ Wd : Nat → Nat → Hp → Prop, (∃ m, Wd 0 m (L2.upd H Dl (.lst []))) ∧ ∀ i m H, Wd i m H →
      ((Itl K p).stop i H ∧ Q (.ref Dl) H) ∨ ((Itl K p).go i H ∧ ∃ Nx : Hp → Prop, (∀ H', Nx H' → ∃ m', m' < m ∧ Wd (i + 1) m' H') ∧ ∀ x H', (Itl K p).yld i H x H' → t x (L2.wipe σ vs) H' fun σ2 H2 => L2.wipe σ2 vs = L2.wipe σ vs ∧ RT f W0F ct mt σ2 H2 fun b H3 =>
        if b = true then RD f W0F ce me σ2 H3 fun y H4 => ∃ acc, H4 Dl = some (.lst acc) ∧ acc.length < sizeLine ∧ Nx (L2.upd H4 Dl (.lst (acc ++ [y]))) else Nx H3) := by
  have R' := R.wipe vs
  have nD : p ≠ Dl := ne_of_none hp hD
  have nS : ¬ InS f.g p := fun z => nb (R.ok.inB z)
  have gw : Gw H (L2.upd H Dl (.lst [])) := Gw.new hD
  refine lc_list (K := K) (a := p) (xs := xs) (Qd := fun H => Q (.ref Dl) H) (fun i H' => ∃ acc, LcS f B (L2.wipe σ vs) (wipeD ρ vs) Dl H H' (n + (L - i) * (ct + ce)) acc ∧ mLcL g mt me (wipeD ρ vs) (ds.drop i) acc Q0 ∧ H' p = some (.lst xs) ∧ Reps f.g (fun a => B a ∨ a = Dl) H' xs ds)
    ⟨[], LcS.start R' hD, h, gw _ _ hp, (rs.avoid hD).grow gw⟩ (fun i H' _ ⟨_, _, _, h4, _⟩ => .inl (.inl h4)) (fun i x H' hi' hP => ?_) (fun H' hP => ?_)
  · obtain ⟨acc, S, hf, hp', rs'⟩ := hP
    have hlt : i < xs.length := (List.getElem?_eq_some_iff.mp hi').1
    have hds : i < ds.length := by rw [← rs.length]; exact hlt
    have ed : ds[i]? = some ds[i] := List.getElem?_eq_getElem hds
    obtain ⟨v2, ev, rv⟩ := rs'.get ed
    rw [hi'] at ev
    cases ev
    rw [drop_get ed] at hf
    refine lc_turn (k := n + (L - (i + 1)) * (ct + ce)) hd his ⟨S.R.mono (mul_step (by omega)), S.h0, S.no, S.li, S.kp, S.fr⟩ rv hf fun acc' H2 q S' st => ⟨acc', S', q, st p _ nD nS hp', ?_⟩
    exact rs'.move fun a o h nb => ⟨st a o (fun z => nb (.inr z)) (fun z => nb (.inl (R.ok.inB z))) h, nb⟩
  · obtain ⟨acc, S, hf, _⟩ := hP
    rw [rs.length, List.drop_length] at hf
    exact lc_end S hf e R.ok (Nat.le_add_right _ _) hq
theorem rl_lcT {vs : List Nat} {L : Nat} {H0 : Hp} {Q : VK} {p : Addr} {xs : List V} {ds : List D} (K : PySem.W.Frag) (hd : TgD f is t g) (his : ∀ i ∈ is, i ∈ vs) (R : Rel f B σ H ρ (n + L * (ct + ce))) (hz : xs.length ≤ L) (e : Kp f.g H0 H) (h : mLcL g mt me (wipeD ρ vs) ds [] Q0)
    (hp : (H p = some (.tup xs) ∧ ¬ B p) ∨ WrT K p xs) (rs : Reps f.g B H xs ds)
    (hq : ∀ ds p vs H', Q0 ds → Kp f.g H0 H' → SrcOk f.g H' n → H0 p = none → H' p = some (.lst vs) → Reps f.g (fun a => B a ∨ a = p) H' vs ds → Q (.ref p) H') (hD : H Dl = none) :
    ∃ Wd : Nat → Nat → Hp → Prop, (∃ m, Wd 0 m (L2.upd H Dl (.lst []))) ∧ ∀ i m H, Wd i m H →
      ((Itt K p).stop i H ∧ Q (.ref Dl) H) ∨ ((Itt K p).go i H ∧ ∃ Nx : Hp → Prop, (∀ H', Nx H' → ∃ m', m' < m ∧ Wd (i + 1) m' H') ∧ ∀ x H', (Itt K p).yld i H x H' → t x (L2.wipe σ vs) H' fun σ2 H2 => L2.wipe σ2 vs = L2.wipe σ vs ∧ RT f W0F ct mt σ2 H2 fun b H3 =>
        if b = true then RD f W0F ce me σ2 H3 fun y H4 => ∃ acc, H4 Dl = some (.lst acc) ∧ acc.length < sizeLine ∧ Nx (L2.upd H4 Dl (.lst (acc ++ [y]))) else Nx H3) := by
  have R' := R.wipe vs
  have gw : Gw H (L2.upd H Dl (.lst [])) := Gw.new hD
  refine lc_tup (K := K) (a := p) (xs := xs) (Qd := fun H => Q (.ref Dl) H) (fun i H' => ∃ acc, LcS f B (L2.wipe σ vs) (wipeD ρ vs) Dl H H' (n + (L - i) * (ct + ce)) acc ∧ mLcL g mt me (wipeD ρ vs) (ds.drop i) acc Q0 ∧ (((H' p = some (.tup xs) ∧ p ≠ Dl) ∧ ¬ B p) ∨ WrT K p xs) ∧ Reps f.g (fun a => B a ∨ a = Dl) H' xs ds)
    ⟨[], LcS.start R' hD, h, hp.imp (fun z => ⟨⟨gw _ _ z.1, ne_of_none z.1 hD⟩, z.2⟩) id, (rs.avoid hD).grow gw⟩ (fun i H' _ ⟨_, _, _, h4, _⟩ => h4.elim (fun z => .inl (.inl z.1.1)) .inr) (fun i x H' hi' hP => ?_) (fun H' hP => ?_)
  · obtain ⟨acc, S, hf, hp', rs'⟩ := hP
    have hlt : i < xs.length := (List.getElem?_eq_some_iff.mp hi').1
    have hds : i < ds.length := by rw [← rs.length]; exact hlt
    have ed : ds[i]? = some ds[i] := List.getElem?_eq_getElem hds
    obtain ⟨v2, ev, rv⟩ := rs'.get ed
    rw [hi'] at ev
    cases ev
    rw [drop_get ed] at hf
    refine lc_turn (k := n + (L - (i + 1)) * (ct + ce)) hd his ⟨S.R.mono (mul_step (by omega)), S.h0, S.no, S.li, S.kp, S.fr⟩ rv hf fun acc' H2 q S' st => ⟨acc', S', q, hp'.imp (fun z => ⟨⟨st p _ z.1.2 (fun y => z.2 (R.ok.inB y)) z.1.1, z.1.2⟩, z.2⟩) id, ?_⟩
    exact rs'.move fun a o h nb => ⟨st a o (fun z => nb (.inr z)) (fun z => nb (.inl (R.ok.inB z))) h, nb⟩
  · obtain ⟨acc, S, hf, _⟩ := hP
    rw [rs.length, List.drop_length] at hf
    exact lc_end S hf e R.ok (Nat.le_add_right _ _) hq
variable {scope : Scope} {own : List (Str × Nat)} {tg elt : Expr} {ifs : List Expr}
theorem rd_lc {σ : St} {H : Hp} {Q : VK} (P : LcP f X scope own tg ifs elt ct ce t is g mt me) (h0 : ct + ce = 0) (h : RL f W ca (mLc ma g mt me (own.map (·.2))) σ H Q) : tLc (iList X.K (RD f W ca ma)) t (RT f W0F ct mt) (RD f W0F ce me) (own.map (·.2)) σ H Q := by
  obtain ⟨B, n, ρ, Q0, W0, R, hm, hq, hw⟩ := h
  refine rd_i (m := n) R hm (fun d v H1 h1 e1 R1 r1 => ?_) hw
  cases r1 with
  | lst hp nb rs => exact ⟨_, rfl, ⟨_, .inl (.inl hp)⟩, fun Dl hD => rl_lcL X.K P.hd P.hi (by rw [h0, Nat.mul_zero]; exact R1) (Nat.le_refl _) e1 h1 hp nb rs hq hD⟩
  | _ => exact h1.elim
theorem rd_lcB (N : Nat) {σ : St} {H : Hp} {Q : VK} (P : LcP f X scope own tg ifs elt ct ce t is g mt me) (h : RL f W (ca + N * (ct + ce)) (mLcB N ma g mt me (own.map (·.2))) σ H Q) : tLc (iList X.K (RD f W ca ma)) t (RT f W0F ct mt) (RD f W0F ce me) (own.map (·.2)) σ H Q := by
  obtain ⟨B, n, ρ, Q0, W0, R, hm, hq, hw⟩ := h
  refine rd_i (m := n + N * (ct + ce)) (R.mono (by omega)) hm (fun d v H1 h1 e1 R1 r1 => ?_) (fun x cls dd H' q e s er => hw x cls dd H' q e (s.mono (by omega)) er)
  cases r1 with
  | lst hp nb rs => exact ⟨_, rfl, ⟨_, .inl (.inl hp)⟩, fun Dl hD => rl_lcL X.K P.hd P.hi R1 (by rw [rs.length]; exact h1.1) e1 h1.2 hp nb rs hq hD⟩
  | _ => exact h1.elim
theorem rd_lcT {σ : St} {H : Hp} {Q : VK} (hK : f.g.K = X.K) (P : LcP f X scope own tg ifs elt ct ce t is g mt me) (h0 : ct + ce = 0) (h : RL f W ca (mLcT ma g mt me (own.map (·.2))) σ H Q) : tLc (iTup X.K (RD f W ca ma)) t (RT f W0F ct mt) (RD f W0F ce me) (own.map (·.2)) σ H Q := by
  obtain ⟨B, n, ρ, Q0, W0, R, hm, hq, hw⟩ := h
  refine rd_i (m := n) R hm (fun d v H1 h1 e1 R1 r1 => ?_) hw
  cases r1 with
  | tup hp nb rs => exact ⟨_, rfl, ⟨_, .inl (.inl hp)⟩, fun Dl hD => rl_lcT X.K P.hd P.hi (by rw [h0, Nat.mul_zero]; exact R1) (Nat.le_refl _) e1 h1 (.inl ⟨hp, nb⟩) rs hq hD⟩
  | wtup hp rs => exact ⟨_, rfl, ⟨_, .inr (hK ▸ hp)⟩, fun Dl hD => rl_lcT X.K P.hd P.hi (by rw [h0, Nat.mul_zero]; exact R1) (Nat.le_refl _) e1 h1 (.inr (hK ▸ hp)) rs hq hD⟩
  | _ => exact h1.elim
theorem rd_lcR1 {σ : St} {H : Hp} {Q : VK} (P : LcP f X scope own tg ifs elt ct ce t is g mt me) (h : RL f W (ca + 2 ^ 62 * (ct + ce)) (mLcR1 ma g mt me (own.map (·.2))) σ H Q) : tLc (iRng1 (tCons (RD f W ca ma) tNil)) t (RT f W0F ct mt) (RD f W0F ce me) (own.map (·.2)) σ H Q := by
  obtain ⟨B, n, ρ, Q0, W0, R, hm, hq, hw⟩ := h
  refine rd_i (m := n + 2 ^ 62 * (ct + ce)) (R.mono (by omega)) hm (fun d v H1 h1 e1 R1 r1 => ?_) (fun x cls dd H' q e s er => hw x cls dd H' q e (s.mono (by omega)) er)
  cases r1 with
  | int j => exact ⟨j, rfl, h1.1.1, h1.1.2, fun Dl hD => rl_lcR (L := 2 ^ 62) P.hd P.hi R1 (by have := h1.1.2; omega) e1 h1.2 hq hD⟩
  | _ => exact h1.elim
theorem rd_lcR2 {σ : St} {H : Hp} {Q : VK} (P : LcP f X scope own tg ifs elt ct ce t is g mt me) (h : RL f W (ca + cb + 2 ^ 63 * (ct + ce)) (mLcR2 ma mb g mt me (own.map (·.2))) σ H Q) : tLc (iRng2 (tCons (RD f W ca ma) (tCons (RD f W cb mb) tNil))) t (RT f W0F ct mt) (RD f W0F ce me) (own.map (·.2)) σ H Q := by
  obtain ⟨B, n, ρ, Q0, W0, R, hm, hq, hw⟩ := h
  refine rd_i (m := n + 2 ^ 63 * (ct + ce) + cb) (R.mono (by omega)) hm (fun d v H1 h1 e1 R1 r1 => ?_) (fun x cls dd H' q e s er => hw x cls dd H' q e (s.mono (by omega)) er)
  refine rd_i (m := n + 2 ^ 63 * (ct + ce)) R1 h1 (fun d2 v2 H2 h2 e2 R2 r2 => ?_) (fun x cls dd H' q e s er => hw x cls dd H' q (e1.trans e) (s.mono (by omega)) er)
  cases r1 with
  | int i =>
    cases r2 with
    | int j => exact ⟨i, j, rfl, h2.1, fun Dl hD => rl_lcR (L := 2 ^ 63) P.hd P.hi R2 (by have := h2.1; omega) (e1.trans e2) h2.2 hq hD⟩
    | _ => exact h2.elim
  | _ => exact h2.elim
/-- the ways in: what is walked, and its reading -/
structure LcI (f : FrC) (X : Cx) (W : WX) (tg iter : Expr) (ct ce : Nat) (t : TG) (g : MG) (mt : MT) (me : ME) (own : List (Str × Nat)) (c : Nat) (m : MA) : Prop where
  ex : ∃ wi, PI X tg iter wi ∧ ∀ σ H Q, RL f W c m σ H Q → tLc wi t (RT f W0F ct mt) (RD f W0F ce me) (own.map (·.2)) σ H Q
theorem li_list (P : LcP f X scope own tg ifs elt ct ce t is g mt me) (h0 : ct + ce = 0) (hi : CE f X W ca a ma) : LcI f X W tg a ct ce t g mt me own ca (mLc ma g mt me (own.map (·.2))) := ⟨_, pi_list hi, fun _ _ _ h => rd_lc P h0 h⟩
theorem li_listB (N : Nat) (P : LcP f X scope own tg ifs elt ct ce t is g mt me) (hi : CE f X W ca a ma) : LcI f X W tg a ct ce t g mt me own (ca + N * (ct + ce)) (mLcB N ma g mt me (own.map (·.2))) := ⟨_, pi_list hi, fun _ _ _ h => rd_lcB N P h⟩
theorem li_tup (hK : f.g.K = X.K) (P : LcP f X scope own tg ifs elt ct ce t is g mt me) (h0 : ct + ce = 0) (hi : CE f X W ca a ma) : LcI f X W tg a ct ce t g mt me own ca (mLcT ma g mt me (own.map (·.2))) := ⟨_, pi_tup hi, fun _ _ _ h => rd_lcT hK P h0 h⟩
theorem li_range1 {p cpos : Pos} (P : LcP f X scope own tg ifs elt ct ce t is g mt me) (hgl : Gl X "range") (hmg : X.mg "range" = none) (hi : CE f X W ca a ma) (ha : starEach [a] X.env = [(false, eval a X.env)] := by rfl) :
    LcI f X W tg (.Call (.Name "range" p) [a] [] cpos) ct ce t g mt me own (ca + 2 ^ 62 * (ct + ce)) (mLcR1 ma g mt me (own.map (·.2))) := ⟨_, pi_range1 hgl hmg (pa_cons hi pa_nil ha) ha, fun _ _ _ h => rd_lcR1 P h⟩
theorem li_range2 {p cpos : Pos} (P : LcP f X scope own tg ifs elt ct ce t is g mt me) (hgl : Gl X "range") (hmg : X.mg "range" = none) (hi : CE f X W ca a ma) (hj : CE f X W cb b mb) (ha : starEach [a, b] X.env = [(false, eval a X.env), (false, eval b X.env)] := by rfl) (ha2 : starEach [b] X.env = [(false, eval b X.env)] := by rfl) :
    LcI f X W tg (.Call (.Name "range" p) [a, b] [] cpos) ct ce t g mt me own (ca + cb + 2 ^ 63 * (ct + ce)) (mLcR2 ma mb g mt me (own.map (·.2))) := ⟨_, pi_range2 hgl hmg (pa_cons hi (pa_cons hj pa_nil ha2) (ha.trans (by rw [ha2]))) ha ha2, fun _ _ _ h => rd_lcR2 P h⟩
theorem cl_lc {iter : Expr} {mm : MA} (hc : X.calm = true) (hN : X.N.Nodup) (P : LcP f X scope own tg ifs elt ct ce t is g mt me) (I : LcI f X W tg iter ct ce t g mt me own cc mm) (hs : ∀ x, foldedSetIterable iter X.env x = pure x := by intro _; rfl) :
    CL f X W cc (.ListComp elt [⟨tg, iter, ifs, 0⟩] scope pos) mm := by
  obtain ⟨wi, hi, k⟩ := I.ex
  exact PE.imp (pe_lc hc hN hi P.ok P.hg P.ht P.he hs) k
theorem cs_asgLc {iter : Expr} {mm : MA} {i : Nat} {y : Str} {py spos : Pos} (hc : X.calm = true) (hN : X.N.Nodup) (P : LcP f X scope own tg ifs elt ct ce t is g mt me) (I : LcI f X W tg iter ct ce t g mt me own cc mm)
    (hsw : swapsWith (.ListComp elt [⟨tg, iter, ifs, 0⟩] scope pos) (some (.Name y py)) spos.line X.env = pure true) (hy : X.N[i]? = some y := by rfl) (hyl : X.env.scope.names.lookup y = some .local := by rfl) (hs : ∀ x, foldedSetIterable iter X.env x = pure x := by intro _; rfl) :
    CS f X W cc (.Assign [.Name y py] (.ListComp elt [⟨tg, iter, ifs, 0⟩] scope pos) spos) (mAsg i (mFrz mm)) := by
  obtain ⟨wi, hi, k⟩ := I.ex
  refine PS.imp (ps_setLc (i := i) hc hN hy hyl hsw hi P.ok P.hg P.ht P.he hs) fun De σ H h => ?_
  obtain ⟨B, n, ρ, E, R, hm, hn, hr, hb, hcc, hx⟩ := h
  refine k σ H _ ⟨B, n, ρ, _, E.ex ρ, R, hm, fun ds p vs H' q e s hp h1 r => ?_, fun x cls dd H' q e s er => hx B x cls dd σ H' ρ q (R.kp e s) er⟩
  exact hn B _ H' _ q ((R.kp e s).set (.lst h1 (nB R.ok.dom hp) r.free))
end
end Hm
set_option Elab.async false
set_option linter.all false
set_option maxRecDepth 100000
set_option maxHeartbeats 2000000
namespace Hm
open PySem L2 PySem.Spec PyProof.Rows

/-! ### a def -/
section
variable {P : Program} {w : World} {K : PySem.W.Frag} {mg : Str → Option Value} {base : Heap} {ct : Str → Option Addr}
theorem rel_start {N : List Str} {vs : List V} {ds : List D} {src : Option (Addr × Addr)} {B : Addr → Prop} {H : Hp} {n k : Nat} (hB : ∀ a, InS ⟨K, ct, src⟩ a → B a) (dom : ∀ a, B a → H a ≠ none) (s : SrcOk ⟨K, ct, src⟩ H n) (r : Reps ⟨K, ct, src⟩ B H vs ds) (hk : ds.length = k) :
    Rel ⟨⟨K, ct, src⟩, B, H⟩ B (L2.start N vs) H (ds.map Sl.dat ++ List.replicate (N.length - k) .un) n := by
  have hl := r.length
  refine ⟨⟨hB, dom, fun a h => h, fun a h => .inl h, dom, Kp.refl H, s⟩, ?_, fun i x o h1 h2 => ?_, fun i j p x y ne h1 o1 => ?_⟩
  · unfold L2.start
    rw [List.length_append, List.length_map, List.length_replicate, List.length_append, List.length_map, List.length_replicate]
    omega
  · by_cases hi : i < ds.length
    · rw [List.getElem?_append_left (by rw [List.length_map]; exact hi), List.getElem?_map, List.getElem?_eq_getElem hi] at h1
      obtain ⟨v, ev, rv⟩ := r.get (List.getElem?_eq_getElem hi)
      unfold L2.start at h2
      rw [List.getElem?_append_left (by rw [List.length_map, hl]; exact hi), List.getElem?_map, ev] at h2
      cases h1; cases h2
      exact ⟨v, rfl, rv⟩
    · rw [List.getElem?_append_right (by rw [List.length_map]; omega), List.getElem?_replicate] at h1
      split at h1
      · cases h1; trivial
      · cases h1
  · by_cases hi : i < ds.length
    · rw [List.getElem?_append_left (by rw [List.length_map]; exact hi), List.getElem?_map, List.getElem?_eq_getElem hi] at h1
      cases h1; cases o1
    · rw [List.getElem?_append_right (by rw [List.length_map]; omega), List.getElem?_replicate] at h1
      split at h1
      · cases h1; cases o1
      · cases h1
/-- THE RULE for a def over data -/
theorem fn_data {x qual : Str} {st : Stmt} {fa : Addr} {fd : FuncData} {N ps : List Str} {k c : Nat} {ms : MS} (F : Fun K x qual st fa fd) (S : FnScope N ps (defScope st))
    (body : ∀ (cdv : Value) (A : Around) (outer : List Env) (s : Shared) (H : Hp) (E : XK) (f : FrC), f.g.K = K → f.g.ct = ct → Room k (A.deeper (envOfC qual (defScope st) s.heap.objs.size fa cdv)) →
      CB f (cxOf (L2.CX P w) P w K mg base N qual (defScope st) fa cdv A outer s H E) (fun cls d _ H => E cls d H) c (defBody st) ms) : FnD P w K mg base ct (k + 1) fa fd ps c (mFun ps.length N.length ms) := by
  refine F.okX S (fun vs H Q E h => ?_) (fun cdv A outer s H vs Q E hr h => ?_)
  · obtain ⟨src, B, n, ds, Q0, W0, h1, h2, h3, h4, h5, _⟩ := h
    rw [h4.length]
    exact h5.1
  · obtain ⟨src, B, n, ds, Q0, W0, h1, h2, h3, h4, h5, h6, h7⟩ := h
    refine ⟨_, body cdv A outer s H E ⟨⟨K, ct, src⟩, B, H⟩ rfl rfl hr, ?_⟩
    refine ⟨B, n, _, _, rel_start h1 h2 h3 h4 h5.1, h5.2, fun B' σ' H' ρ' q R' => ?_, fun d v H' q e s' r => ?_, fun B' σ' H' ρ' q R' => q.elim, fun B' σ' H' ρ' q R' => q.elim, fun B' x cls dd σ' H' ρ' q R' er => ?_⟩
    · exact h6 _ _ H' q R'.ok.keep R'.ok.src .non
    · exact h6 d v H' q e s' r
    · refine h7 x cls dd H' q R'.ok.keep R'.ok.src ?_
      obtain ⟨C, e1, e2, e3⟩ := er
      refine ⟨C, e1, e2, ?_⟩
      rcases e3 with e3 | ⟨d, kvs, z1, z2, z3, z4, z5⟩
      · exact .inl e3
      · exact .inr ⟨d, kvs, z1, z2, fun z => z3 (R'.ok.b0 d z), z4.move fun a o h nb => ⟨h, fun z => nb (R'.ok.b0 a z)⟩, z5⟩
/-- a stronger reading, fewer draws -/
theorem FnD.imp {k c c' : Nat} {fa : Addr} {fd : FuncData} {ps : List Str} {m m' : MF} (F : FnD P w K mg base ct k fa fd ps c m) (hc : c ≤ c') (h : ∀ ds Q W, m' ds Q W → m ds Q W) : FnD P w K mg base ct k fa fd ps c' m' :=
  FnOk.imp F fun vs H Q E z => by
    obtain ⟨src, B, n, ds, Q0, W0, h1, h2, h3, h4, h5, h6, h7⟩ := z
    exact ⟨src, B, n + (c' - c), ds, Q0, W0, h1, h2, h3.mono (by omega), h4, h _ _ _ h5, fun d v H' q e s r => h6 d v H' q e (s.mono (by omega)) r, fun x cls dd H' q e s er => h7 x cls dd H' q e (s.mono (by omega)) er⟩
theorem FnD.cost {k c c' : Nat} {fa : Addr} {fd : FuncData} {ps : List Str} {m : MF} (F : FnD P w K mg base ct k fa fd ps c m) (hc : c ≤ c') : FnD P w K mg base ct k fa fd ps c' m := FnD.imp F hc fun _ _ _ h => h
end

/-! ### raise C() -/
section
variable {f : FrC} {X : Cx} {W : WX} {ca cb cc : Nat} {a b c : Expr} {es : List Expr} {ma mb mc : ME} {mas : MA} {pos : Pos}
variable {C : Addr} {bmB : List Value} {Bn newId initId : String}
theorem pmk_own0 {x : Str} {p pos : Pos} (F : ExcBaseFacts Bn newId initId bmB) (q : PySem.W.excIn X.K C bmB newId = true) (gC : X.mg x = some (.ref C)) (kC : PySem.W.keepIn X.K (.ref C) = true) (r : Raises X (.ref C)) (hg : Gl X x)
    (hdb : (x == ("__debug__" : Str)) = false := by decide) : PMk X (.Call (.Name x p) [] [] pos) (fun _ H Q => Q (.ref C) none H) := by
  intro pins s σ H Q I h
  refine wpAny_Call_Name_kw (ld_glob I hg gC ?_ hdb)
  refine PySem.W.callWith_K0 I.kIn kC ?_
  show wpAny _ _ (call (.ref C) []) _ _ _
  obtain ⟨bm, N, nm, qn, bs, hdct, sn, sub, ab, col, dd, k0, k1, k2, k3, k5, mN, hC, hN, hni, T⟩ := exc_obj I.kIn q
  refine wpAny_call_exc_subT F T hC hN hni (fun h' e hm => ?_) (by show 0 ≤ sizeLine; exact Nat.zero_le _)
  exact mk_of I hm r h (I.hok.gone hm.new)
/-- what is to be known of a class of errors at C, called x -/
structure ErrC (K : PySem.W.Frag) (mg : Str → Option Value) (ct : Str → Option Addr) (x : Str) (C : Addr) : Prop where
  ct : ct x = some C
  gC : mg x = some (.ref C)
  xC : PySem.W.excIn K C [.type "ValueError", .type "Exception", .type "BaseException", .type "object"] "ValueError.__new__" = true
  kC : PySem.W.keepIn K (.ref C) = true
  bC : PySem.W.subIn K (.ref C) (.type "BaseException") = some true
  tC : PySem.W.typeIn K (.ref C) = some (.type "type")
theorem cs_raise0 {x : Str} {p cpos : Pos} {ct : Str → Option Addr} (hct : f.g.ct = ct) (hc : X.calm = true) (tk : Takes X W) (T : ErrC X.K X.mg ct x C) (hg : Gl X x) (hdb : (x == ("__debug__" : Str)) = false := by decide) : CS f X W 0 (.Raise (some (.Call (.Name x p) [] [] cpos)) none pos) (mRaise ⟨x, []⟩) :=
  PS.imp (ps_raise hc tk (pmk_own0 PySem.F.excBase_ValueError T.xC T.gC T.kC (raises_own T.bC T.tC) hg hdb)) fun De σ H h => by
    obtain ⟨B, n, ρ, E, R, hm, hn, hr, hb, hc, hx⟩ := h
    exact hx B _ _ _ σ H ρ hm R ⟨C, by rw [hct]; exact T.ct, rfl, .inl ⟨rfl, rfl⟩⟩

/-! ### lists of one's own -/
theorem Rel.setOwn {B : Addr → Prop} {σ : L2.St} {H H' : Hp} {ρ : Rho} {n m i p : Nat} {vs : List V} {ds : List D} (R : Rel f B σ H ρ n) (e : Kp f.g H H') (s : SrcOk f.g H' m) (hp : H p = none) (h1 : H' p = some (.lst vs)) (r : Reps f.g (fun a => B a ∨ a = p) H' vs ds) :
    Rel f (fun a => B a ∨ a = p) (σ.set i (some (.ref p))) H' (ρ.set i (.own ds)) m := by
  have R1 := R.kp e s
  have h0 := R.ok.h0 hp
  have old : ∀ (j : Nat) x, ρ[j]? = some x → x.isOwn = true → σ[j]? ≠ some (some (.ref p)) := fun j x h1 h2 h3 => by
    have q := R.sl j x _ h1 h3
    cases x with
    | un => cases h2
    | dat d => cases h2
    | own ds =>
      obtain ⟨p', vs, e1, b, h0, hp', r⟩ := q
      cases e1
      rw [hp] at hp'; cases hp'
    | ownd ds =>
      obtain ⟨p', vs, e1, b, h0, hp', r⟩ := q
      cases e1
      rw [hp] at hp'; cases hp'
  have av : ∀ a o, H a = some o → ¬ B a → H' a = some o ∧ ¬ (B a ∨ a = p) := fun a o h nb => ⟨e a o (fun z => nb (R.ok.inB z)) h, fun z => z.elim nb (ne_of_none h hp)⟩
  refine ⟨⟨R.ok.s0, R.ok.d0, fun a h => .inl (R.ok.b0 a h), fun a h => ?_, fun a h => ?_, R1.ok.keep, s⟩, by rw [List.length_set, List.length_set, R.len], fun j x o h2 h3 => ?_, fun a b q x y ne h2 o2 h3 o3 s2 => ?_⟩
  · rcases h with h | rfl
    · exact R.ok.ow a h
    · exact .inr h0
  · rcases h with h | rfl
    · exact R1.ok.dom a h
    · rw [h1]; exact fun z => nomatch z
  · rcases set_cases h2 with ⟨e1, e2, _⟩ | ⟨e1, h2⟩
    · rcases set_cases h3 with ⟨_, e4, _⟩ | ⟨e3, _⟩
      · subst e2; subst e4
        exact ⟨p, vs, rfl, .inr rfl, h0, h1, r⟩
      · exact absurd e1 e3
    · rcases set_cases h3 with ⟨e3, _⟩ | ⟨_, h3⟩
      · exact absurd e3 e1
      · have q := R.sl j x o h2 h3
        cases x with
        | un => trivial
        | dat d =>
          obtain ⟨v, e1, r⟩ := q
          exact ⟨v, e1, r.move av⟩
        | own ds =>
          obtain ⟨p', vs, e1, b, h0, hp', r⟩ := q
          exact ⟨p', vs, e1, .inl b, h0, e _ _ (R.ok.nS h0) hp', r.move av⟩
        | ownd ds =>
          obtain ⟨p', vs, e1, b, h0, hp', r⟩ := q
          exact ⟨p', vs, e1, .inl b, h0, e _ _ (R.ok.nS h0) hp', r.move av⟩
  · rcases set_cases h2 with ⟨e1, e2, l1⟩ | ⟨e1, h2⟩
    · subst e1
      rw [List.getElem?_set_self (by rw [R.len]; exact l1)] at s2
      cases s2
      rcases set_cases h3 with ⟨e3, _⟩ | ⟨e3, h3⟩
      · exact absurd e3 ne
      · rw [List.getElem?_set_ne e3]
        exact old b y h3 o3
    · rw [List.getElem?_set_ne e1] at s2
      rcases set_cases h3 with ⟨e3, e4, l3⟩ | ⟨e3, h3⟩
      · subst e3
        rw [List.getElem?_set_self (by rw [R.len]; exact l3)]
        intro z
        cases z
        exact old a x h2 o2 s2
      · rw [List.getElem?_set_ne e3]
        exact R.inj a b q x y ne h2 o2 h3 o3 s2
/-- x = [..], x = a new list: to be changed -/
theorem cs_asgO {i : Nat} {x : Str} {p : Pos} (hN : X.N.Nodup) (he : CL f X W ca a mas) (hi : X.N[i]? = some x := by rfl) (hx : Loc X.env.scope x := by first | exact Or.inl rfl | exact Or.inr rfl) (hf : X.fn x = true ∨ X.env.scope.names.lookup x = some .local := by first | exact .inl rfl | exact .inr rfl | assumption)
    (hs : swapsWithSole [.Name x p] a pos.line X.env = pure false := by rfl) (hw : swappedStores [.Name x p] a X.env = pure none := by rfl) : CS f X W ca (.Assign [.Name x p] a pos) (mAsgO i mas) :=
  PS.imp (ps_asg he (pg_name (i := i) hN hi hx hf) hs hw rfl) fun De σ H h => by
    obtain ⟨B, n, ρ, E, R, hm, hn, hr, hb, hc, hx⟩ := h
    exact ⟨B, n, ρ, _, E.ex ρ, R, hm, fun ds p vs H' q e s hp h1 r => hn _ _ H' _ q (R.setOwn e s hp h1 r), fun x cls dd H' q e s er => hx B x cls dd σ H' ρ q (R.kp e s) er⟩
/-- an own list is written anew -/
theorem Rel.putOwn {B : Addr → Prop} {σ : L2.St} {H : Hp} {ρ : Rho} {n i : Nat} {p : Addr} {ds es : List D} {us : List V} (R : Rel f B σ H ρ n) (hi : ρ[i]? = some (.own ds)) (hs : σ[i]? = some (some (.ref p))) (hB : B p) (h0 : f.H0 p = none) (r : Reps f.g B H us es) :
    Rel f B σ (L2.upd H p (.lst us)) (ρ.set i (.own es)) n := by
  have hl : i < ρ.length := (List.getElem?_eq_some_iff.mp hi).1
  refine ⟨R.ok.upd hB h0, by rw [List.length_set, R.len], fun j x o h2 h3 => ?_, fun a b q x y ne h2 o2 h3 o3 s2 => ?_⟩
  · rcases set_cases h2 with ⟨e1, e2, _⟩ | ⟨e1, h2⟩
    · subst e1; subst e2
      rw [hs] at h3; cases h3
      exact ⟨p, us, rfl, hB, h0, upd_same, r.upd hB⟩
    · have q := R.sl j x o h2 h3
      cases x with
      | un => trivial
      | dat d =>
        obtain ⟨v, e1, r⟩ := q
        exact ⟨v, e1, r.upd hB⟩
      | own ds' =>
        obtain ⟨p', vs, e2, b, h0', hp', r⟩ := q
        have ne : p' ≠ p := fun z => R.inj i j p _ _ e1 hi rfl h2 rfl hs (by rw [h3, e2, z])
        exact ⟨p', vs, e2, b, h0', by rw [upd_ne ne]; exact hp', r.upd hB⟩
      | ownd ds' =>
        obtain ⟨p', vs, e2, b, h0', hp', r⟩ := q
        have ne : p' ≠ p := fun z => R.inj i j p _ _ e1 hi rfl h2 rfl hs (by rw [h3, e2, z])
        exact ⟨p', vs, e2, b, h0', by rw [upd_ne ne]; exact hp', r.upd hB⟩
  · rcases set_cases h2 with ⟨e1, e2, l1⟩ | ⟨e1, h2⟩
    · rcases set_cases h3 with ⟨e3, _⟩ | ⟨e3, h3⟩
      · exact absurd (e1.symm.trans e3) ne
      · subst e1
        exact R.inj i b q _ y ne hi rfl h3 o3 s2
    · rcases set_cases h3 with ⟨e3, e4, l3⟩ | ⟨e3, h3⟩
      · subst e3
        exact R.inj a i q x _ ne h2 o2 hi rfl s2
      · exact R.inj a b q x y ne h2 o2 h3 o3 s2
def mApp (i : Nat) (e : ME) : MS := fun ρ E => match ρ[i]? with
  | some (.own ds) => e ρ (fun d => ds.length < sizeLine ∧ E.nx (ρ.set i (.own (ds ++ [d])))) (E.ex ρ)
  | _ => False
theorem Rel.ownAt {B : Addr → Prop} {σ : L2.St} {H : Hp} {ρ : Rho} {n i : Nat} {ds : List D} (R : Rel f B σ H ρ n) (e : ρ[i]? = some (.own ds)) : ∃ p vs, σ[i]? = some (some (.ref p)) ∧ B p ∧ f.H0 p = none ∧ H p = some (.lst vs) ∧ Reps f.g B H vs ds := by
  have hl : i < σ.length := by rw [R.len]; exact (List.getElem?_eq_some_iff.mp e).1
  obtain ⟨p, vs, e1, r⟩ := R.sl i _ _ e (List.getElem?_eq_getElem hl)
  exact ⟨p, vs, by rw [List.getElem?_eq_getElem hl, e1], r⟩
theorem cs_app {i : Nat} {x : Str} {px apos cpos : Pos} (he : CE f X W ca a ma) (hN : X.N[i]? = some x := by rfl) (hv : Vis X.env.scope x := by first | exact Or.inl rfl | exact Or.inr (Or.inl rfl) | exact Or.inr (Or.inr rfl)) (hd : (x == ("__debug__" : Str)) = false := by decide) (hcd : (x == ("__classdict__" : Str)) = false := by decide)
    (hbase : attributeBase (.Name x px) "append" X.env (eval (.Name x px) X.env) = eval (.Name x px) X.env := by rfl)
    (hfew : ((backTo cpos (starEach [a] X.env)).all (fun x => !x.1) && (backToKw cpos (keywordEach [] X.env)).all (fun x => x.1.isSome)
      && decide ([a].length + ([] : List Keyword).length + (if ([] : List Keyword).isEmpty then 0 else 1) < 30)) = true := by rfl)
    (hline : (apos.endLine == cpos.line) = true := by rfl) (hst : starEach [a] X.env = (false, eval a X.env) :: starEach [] X.env := by rfl) (hplain : (backTo cpos (starEach [] X.env)).any (·.1) = false := by rfl)
    (hs : swapsWith (.Call (.Attribute (.Name x px) "append" apos) [a] [] cpos) none pos.line X.env = pure false := by rfl) :
    CS f X W ca (.Expr (.Call (.Attribute (.Name x px) "append" apos) [a] [] cpos) pos) (mApp i ma) :=
  PS.imp (ps_expr (pe_bm PySem.F.plainAttrs_list PySem.F.slot_list_append PySem.F.type_list_append mt_append (pe_var hN hv hd hcd) (pa_cons he pa_nil hst) hbase hfew hline hst hplain) hs) fun De σ H h => by
    obtain ⟨B, n, ρ, E, R, hm, hn, hr, hb, hc, hx⟩ := h
    unfold mApp at hm
    split at hm
    · rename_i ds e
      obtain ⟨p, vs, es, hB, h0, hp, r⟩ := R.ownAt e
      refine ⟨.ref p, es, .inl ⟨rfl, vs, .inl (.inl hp)⟩, ?_⟩
      refine rd_i (m := n) R hm (fun d v H1 h1 e1 R1 r1 => ?_) fun x cls dd H' q e s er => hx B x cls dd σ H' ρ q (R.kp e s) er
      have hp1 : H1 p = some (.lst vs) := e1 _ _ (R.ok.nS h0) hp
      refine ⟨p, vs, v, rfl, rfl, hp1, by rw [r.length]; exact h1.1, ?_⟩
      exact hn B σ _ _ h1.2 (R1.putOwn e es hB h0 ((r.kp R.ok e1).append (.cons r1 .nil)))
    · exact hm.elim
/-! an own list becomes a datum -/
def mFz (i : Nat) (m : MS) : MS := fun ρ E => match ρ[i]? with
  | some (.own ds) => m (ρ.set i (.dat (.lst ds))) E
  | _ => m ρ E
theorem Rel.frz {B : Addr → Prop} {σ : L2.St} {H : Hp} {ρ : Rho} {n i : Nat} {ds : List D} (R : Rel f B σ H ρ n) (e : ρ[i]? = some (.own ds)) : ∃ B', Rel f B' σ H (ρ.set i (.dat (.lst ds))) n := by
  obtain ⟨p, vs, es, hB, h0, hp, r⟩ := R.ownAt e
  have hl : i < ρ.length := (List.getElem?_eq_some_iff.mp e).1
  have mv : ∀ a o, H a = some o → ¬ B a → H a = some o ∧ ¬ (B a ∧ a ≠ p) := fun a o h nb => ⟨h, fun z => nb z.1⟩
  refine ⟨fun a => B a ∧ a ≠ p, ⟨R.ok.s0, R.ok.d0, fun a h => ⟨R.ok.b0 a h, fun z => R.ok.own0 h0 (z ▸ h)⟩, fun a h => R.ok.ow a h.1, fun a h => R.ok.dom a h.1, R.ok.keep, R.ok.src⟩, by rw [List.length_set, R.len], fun j x o h2 h3 => ?_, fun a b q x y ne h2 o2 h3 o3 s2 => ?_⟩
  · rcases set_cases h2 with ⟨e1, e2, _⟩ | ⟨e1, h2⟩
    · subst e1; subst e2
      rw [es] at h3; cases h3
      exact ⟨_, rfl, .lst hp (fun z => z.2 rfl) (r.move mv)⟩
    · have q := R.sl j x o h2 h3
      cases x with
      | un => trivial
      | dat d =>
        obtain ⟨v, e1, r⟩ := q
        exact ⟨v, e1, r.move mv⟩
      | own ds' =>
        obtain ⟨p', vs, e2, b, h0', hp', r⟩ := q
        have ne : p' ≠ p := fun z => R.inj i j p _ _ e1 e rfl h2 rfl es (by rw [h3, e2, z])
        exact ⟨p', vs, e2, ⟨b, ne⟩, h0', hp', r.move mv⟩
      | ownd ds' =>
        obtain ⟨p', vs, e2, b, h0', hp', r⟩ := q
        have ne : p' ≠ p := fun z => R.inj i j p _ _ e1 e rfl h2 rfl es (by rw [h3, e2, z])
        exact ⟨p', vs, e2, ⟨b, ne⟩, h0', hp', r.move mv⟩
  · rcases set_cases h2 with ⟨e1, e2, l1⟩ | ⟨e1, h2⟩
    · subst e2; cases o2
    · rcases set_cases h3 with ⟨e3, e4, l3⟩ | ⟨e3, h3⟩
      · subst e4; cases o3
      · exact R.inj a b q x y ne h2 o2 h3 o3 s2
theorem cs_fz (i : Nat) {st : Stmt} {ms : MS} (h : CS f X W ca st ms) : CS f X W ca st (mFz i ms) := PS.imp h fun De σ H h => by
  obtain ⟨B, n, ρ, E, R, hm, k⟩ := h
  unfold mFz at hm
  split at hm
  · rename_i ds e
    obtain ⟨B', R'⟩ := R.frz e
    exact ⟨B', n, _, E, R', hm, k⟩
  · exact ⟨B, n, ρ, E, R, hm, k⟩
end
end Hm
set_option Elab.async false
set_option linter.all false
set_option maxRecDepth 100000
set_option maxHeartbeats 2000000
namespace Hm
open PySem L2 PySem.Spec PyProof.Rows

/-! ### the source: a draw; its making -/
abbrev rMod : R2 := rI (fun _ j => 0 < j) fun i j => .int (i % j)
abbrev rAddI : R2 := rI0 fun i j => .int (i + j)
abbrev rInt1 : List V → Hp → VK → Prop := fun xs H Q => (∃ i, xs = [.int i] ∧ Q (.int i) H) ∨ ∃ k, xs = [.bl k] ∧ Q (.int (if k then 1 else 0)) H
abbrev rLenB (K : PySem.W.Frag) : List V → Hp → VK → Prop := fun xs H Q => ∃ x n, xs = [x] ∧ LenV K x H n ∧ Q (.int n) H
abbrev rPowI : R2 := rI CPowW fun i j => .int (i ^ j.toNat)
abbrev rGeI : R2 := rI0 fun i j => .bl (decide (j ≤ i))
abbrev rDivI : R2 := rI CDivW fun i j => .int (i / j)
abbrev rMulI : R2 := rI CMulW fun i j => .int (i * j)
abbrev tInt (t : TE) : TE := tCB rInt1 (tCons t tNil)
/-- slots: source, limit, cells, turn, place, cell, number -/
def t_draw (K : PySem.W.Frag) : TS :=
  tSeq (tAsg (tVar 0) (gLst K 2 (gCons (gName 2) (gCons (gName 3) gNil))))
  (tSeq (tAsg (tOp rMod (tInt (tVar 3)) (tCB (rLenB K) (tCons (tVar 2) tNil))) (gName 4))
  (tSeq (tAsg (tOp (rIxL K) (tVar 2) (tVar 4)) (gName 5))
  (tSeq (tAsg (tOp rAddI (tVar 3) (tC (.int 1))) (gSub (tVar 0) (tC (.int 1)) rSetL))
  (tSeq (tIfS (tTest (tOp rGeI (tVar 5) (tOp rPowI (tC (.int 10)) (tC (.int 18)))))
    (tSeq (tAsg (tOp rDivI (tVar 5) (tVar 1)) (gSub (tVar 2) (tVar 4) rSetL)) (tRet (tOp rMod (tInt (tVar 5)) (tVar 1)))) tNext)
  (tSeq (tAsg (tOp rMod (tInt (tOp rAddI (tOp rAddI (tOp rMulI (tOp rMod (tInt (tVar 5)) (tC (.int 2147483629))) (tC (.int 48271))) (tOp rMulI (tOp rMulI (tVar 3) (tVar 3)) (tC (.int 69621)))) (tC (.int 11)))) (tC (.int 2147483647))) (gName 6))
  (tSeq (tAsg (tOp rMod (tInt (tOp rMulI (tVar 6) (tVar 6))) (tC (.int 2147483629))) (gName 6))
  (tSeq (tAsg (tOp rMod (tInt (tOp rMulI (tVar 6) (tVar 6))) (tC (.int 2147483587))) (gName 6))
  (tRet (tOp rMod (tInt (tVar 6)) (tVar 1))))))))))
def m_draw : MF := fun ds Q _ => match ds with
  | [.src, .int lim] => (0 < lim ∧ lim < 2 ^ 200) ∧ ∀ r, 0 ≤ r → r < lim → Q (.int r)
  | _ => False
theorem small_log {i : Int} {b : Nat} (h : i.natAbs < 2 ^ b) (h0 : 0 < b) : i.natAbs.log2 < b := PySem.Flt.log2_lt_of h0 h
theorem mul_small {i j : Int} (h : 0 ≤ i) (h2 : i < 2147483648) (h3 : 0 ≤ j) (h4 : j < 2147483648) : CMulW i j := wide_mul (a := 31) (b := 31) (by omega) (by omega) (by omega) (by omega) (by omega)
theorem srcLine_lt : srcLine.natAbs < 2 ^ 20001 := by
  unfold srcLine
  rw [Int.natAbs_pow]
  exact Nat.pow_lt_pow_right (by decide) (by decide)
theorem turn_nat {turn : Int} (h0 : 0 ≤ turn) (h : turn ≤ srcLine) : turn.natAbs < 2 ^ 20001 := Nat.lt_of_le_of_lt (by omega) srcLine_lt
theorem pure_draw {K : PySem.W.Frag} {src : Option (Addr × Addr)} {ct : Str → Option Addr} {lim : Int} {s c : Addr} {H : Hp} {n : Nat} {De : Ends} {x2 x3 x4 x5 x6 : Option V} (hs : src = some (s, c)) (hl : 0 < lim) (hl2 : lim < 2 ^ 200) (S : SrcOk ⟨K, ct, src⟩ H (n + 1))
    (hq : ∀ r H', 0 ≤ r → r < lim → Kp ⟨K, ct, src⟩ H H' → SrcOk ⟨K, ct, src⟩ H' n → De.rt (.int r) H') : t_draw K De [some (.ref s), some (.int lim), x2, x3, x4, x5, x6] H := by
  obtain ⟨cells, turn, nsc, h1, h2, hne, hlen, ht0, ht1⟩ := S s c hs
  have hpos : 0 < cells.length := List.length_pos_iff.mpr hne
  have hm0 : 0 ≤ turn % (cells.length : Int) := Int.emod_nonneg _ (by omega)
  have hm1 : turn % (cells.length : Int) < cells.length := Int.emod_lt_of_pos _ (by omega)
  obtain ⟨j, hj⟩ := Int.eq_ofNat_of_zero_le hm0
  have hjl : j < cells.length := by omega
  have inS : ∀ a, InS ⟨K, ct, src⟩ a ↔ (a = s ∨ a = c) := fun a => by
    constructor
    · rintro ⟨s', c', e, z⟩
      have e' : src = some (s', c') := e
      rw [hs] at e'; cases e'; exact z
    · exact fun z => ⟨s, c, hs, z⟩
  -- cells, turn = source
  refine ⟨_, rfl, s, _, rfl, .inl (.inl h1), rfl, _, _, rfl, _, _, rfl, rfl, ?_⟩
  -- place
  refine ⟨_, rfl, .inl ⟨turn, rfl, ?_⟩⟩
  refine ⟨_, rfl, _, cells.length, rfl, .inl ⟨cells.map V.int, .inl (.inl h2), by rw [List.length_map]⟩, turn, cells.length, rfl, rfl, by omega, ?_⟩
  -- cell
  have hat : atI (cells.map V.int) (turn % (cells.length : Int)) = some (.int cells[j]) := by
    rw [hj]
    exact atI_nat (by rw [List.getElem?_map, List.getElem?_eq_getElem hjl]; rfl)
  refine ⟨_, rfl, _, rfl, c, cells.map V.int, _, _, rfl, rfl, .inl (.inl h2), hat, ?_⟩
  -- source[1] = turn + 1
  refine ⟨_, rfl, turn, 1, rfl, rfl, _, rfl, s, [.ref c, .int turn], 1, 1, rfl, rfl, h1, rfl, ?_⟩
  have h1' : upd H s (.lst ([V.ref c, .int turn].set 1 (.int (turn + 1)))) s = some (.lst [.ref c, .int (turn + 1)]) := upd_same
  have h2' : upd H s (.lst ([V.ref c, .int turn].set 1 (.int (turn + 1)))) c = some (.lst (cells.map V.int)) := by rw [upd_ne (Ne.symm nsc)]; exact h2
  refine ⟨_, rfl, 10, 18, rfl, rfl, ⟨by decide, by decide⟩, _, _, rfl, rfl, _, rfl, ?_⟩
  dsimp only
  by_cases hb : (10 : Int) ^ (18 : Int).toNat ≤ cells[j]
  · rw [if_pos (decide_eq_true hb)]
    have hb0 : 0 ≤ cells[j] := Int.le_trans (by decide) hb
    refine ⟨_, rfl, _, rfl, cells[j], lim, rfl, rfl, ⟨hl, ?_⟩, _, rfl, _, rfl, c, cells.map V.int, (turn % (cells.length : Int)), j, rfl, rfl, h2', ?_, ?_⟩
    · refine Nat.lt_of_lt_of_le (small_log (b := 200) ?_ (by decide)) (by decide)
      have e : lim = (lim.natAbs : Int) := by omega
      rw [e] at hl2
      exact_mod_cast hl2
    · rw [hj, List.length_map]
      unfold ixN
      rw [if_pos (by omega), if_pos (by omega)]
      simp
    · refine ⟨_, rfl, .inl ⟨cells[j], rfl, _, rfl, cells[j], lim, rfl, rfl, hl, ?_⟩⟩
      refine hq _ _ (Int.emod_nonneg _ (by omega)) (Int.emod_lt_of_pos _ hl) (fun a o na ha => ?_) (fun s' c' e => ?_)
      · rw [inS] at na
        rw [upd_ne (fun z => na (.inr z)), upd_ne (fun z => na (.inl z))]
        exact ha
      · have e' : src = some (s', c') := e
        rw [hs] at e'; cases e'
        refine ⟨cells.set j (cells[j] / lim), turn + 1, nsc, ?_, ?_, ?_, ?_, by omega, by omega⟩
        · rw [upd_ne nsc]; exact h1'
        · rw [upd_same, List.map_set]
        · exact fun z => hne (List.eq_nil_of_length_eq_zero (by rw [← List.length_set (as := cells) (i := j) (a := cells[j] / lim), z]; rfl))
        · rw [List.length_set]; exact hlen
  · rw [if_neg (by simpa using hb)]
    have tn := turn_nat ht0 (by omega)
    have a0 : 0 ≤ cells[j] % 2147483629 := Int.emod_nonneg _ (by decide)
    have a1 : cells[j] % 2147483629 < 2147483629 := Int.emod_lt_of_pos _ (by decide)
    refine ⟨_, rfl, .inl ⟨cells[j], rfl, cells[j], 2147483629, rfl, rfl, (show (0 : Int) < 2147483629 by decide), _, 48271, rfl, rfl, mul_small a0 (by omega) (by decide) (by decide), ?_⟩⟩
    refine ⟨_, rfl, _, rfl, turn, turn, rfl, rfl, wide_mul (a := 20001) (b := 20001) tn tn (by decide) (by decide) (by decide), _, 69621, rfl, rfl, wide_mul (a := 40002) (b := 20) (wide_lt tn tn) (by decide) (by decide) (by decide) (by decide), ?_⟩
    refine ⟨_, _, rfl, rfl, _, 11, rfl, rfl, .inl ⟨_, rfl, _, 2147483647, rfl, rfl, (show (0 : Int) < 2147483647 by decide), ?_⟩⟩
    dsimp only
    generalize hx : (cells[j] % 2147483629 * 48271 + turn * turn * 69621 + 11) % 2147483647 = x
    have x0 : 0 ≤ x := by rw [← hx]; exact Int.emod_nonneg _ (by decide)
    have x1 : x < 2147483647 := by rw [← hx]; exact Int.emod_lt_of_pos _ (by decide)
    refine ⟨_, rfl, _, rfl, x, x, rfl, rfl, mul_small x0 (by omega) x0 (by omega), .inl ⟨_, rfl, _, 2147483629, rfl, rfl, (show (0 : Int) < 2147483629 by decide), ?_⟩⟩
    dsimp only
    generalize hy : x * x % 2147483629 = y
    have y0 : 0 ≤ y := by rw [← hy]; exact Int.emod_nonneg _ (by decide)
    have y1 : y < 2147483629 := by rw [← hy]; exact Int.emod_lt_of_pos _ (by decide)
    refine ⟨_, rfl, _, rfl, y, y, rfl, rfl, mul_small y0 (by omega) y0 (by omega), .inl ⟨_, rfl, _, 2147483587, rfl, rfl, (show (0 : Int) < 2147483587 by decide), ?_⟩⟩
    refine ⟨_, rfl, .inl ⟨_, rfl, _, rfl, _, lim, rfl, rfl, hl, ?_⟩⟩
    refine hq _ _ (Int.emod_nonneg _ (by omega)) (Int.emod_lt_of_pos _ hl) (fun a o na ha => ?_) (fun s' c' e => ?_)
    · rw [inS] at na
      rw [upd_ne (fun z => na (.inl z))]
      exact ha
    · have e' : src = some (s', c') := e
      rw [hs] at e'; cases e'
      exact ⟨cells, turn + 1, nsc, h1', h2', hne, hlen, by omega, by omega⟩
theorem fn_draw {P : Program} {w : World} {K : PySem.W.Frag} {mg : Str → Option Value} {base : Heap} {ct : Str → Option Addr} {x qual : Str} {st : Stmt} {fa : Addr} {fd : FuncData} {N ps : List Str} {k : Nat} (F : Fun K x qual st fa fd) (S : FnScope N ps (defScope st)) (hN : N.length = 7) (hp : ps.length = 2)
    (body : ∀ (cdv : Value) (A : Around) (outer : List Env) (s : Shared) (H : Hp) (E : XK), PSs (cxOf (L2.CX P w) P w K mg base N qual (defScope st) fa cdv A outer s H E) (defBody st) (t_draw K)) : FnD P w K mg base ct (k + 1) fa fd ps 1 m_draw := by
  have red : ∀ {ds : List D} {Q : DK} {W : XKD}, m_draw ds Q W → ∃ lim, ds = [.src, .int lim] ∧ (0 < lim ∧ lim < 2 ^ 200) ∧ ∀ r, 0 ≤ r → r < lim → Q (.int r) := fun {ds Q W} h => by
    unfold m_draw at h
    split at h
    · exact ⟨_, rfl, h⟩
    · exact h.elim
  refine F.okX S (fun vs H Q E h => ?_) (fun cdv A outer s H vs Q E hr h => ?_)
  · obtain ⟨src, B, n, ds, Q0, W0, h1, h2, h3, h4, h5, _⟩ := h
    obtain ⟨lim, rfl, _⟩ := red h5
    rw [h4.length, hp]; rfl
  · obtain ⟨src, B, n, ds, Q0, W0, h1, h2, h3, h4, h5, h6, h7⟩ := h
    obtain ⟨lim, rfl, ⟨l1, l2⟩, l3⟩ := red h5
    refine ⟨_, body cdv A outer s H E, ?_⟩
    cases h4 with
    | cons r1 r2 =>
      cases r2 with
      | cons r2 r3 =>
        cases r3; cases r2
        cases r1 with
        | src e =>
          have es : ∀ s' : Addr, L2.start N [.ref s', .int lim] = [some (.ref s'), some (.int lim), none, none, none, none, none] := fun s' => by
            unfold L2.start
            rw [hN]; rfl
          rw [es]
          exact pure_draw e l1 l2 h3 fun r H' a b e s => h6 _ _ H' (l3 r a b) e s (.int r)
end Hm
set_option Elab.async false
set_option linter.all false
set_option maxRecDepth 100000
set_option maxHeartbeats 2000000
namespace Hm
open PySem L2 PySem.Spec PyProof.Rows

abbrev rAbs1 : List V → Hp → VK → Prop := fun xs H Q => ∃ i, xs = [.int i] ∧ Q (.int (if i < 0 then -i else i)) H
/-- slots: script, cells, k -/
def t_source (K : PySem.W.Frag) : TS :=
  tSeq (tAsg (tSl (rSlL K) (tVar 0) tNoPart (tPart (tC (.int 63)))) (gName 1))
  (tSeq (tFor (iRng1 (tCons (tCB (rLenB K) (tCons (tVar 1) tNil)) tNil)) (gName 2)
    (tIfS (tTest (tOp rGeI (tCB rAbs1 (tCons (tOp (rIxL K) (tVar 1) (tVar 2)) tNil)) (tOp rPowI (tC (.int 10)) (tC (.int 18)))))
      (tAsg (tOp rMod (tInt (tOp (rIxL K) (tVar 1) (tVar 2))) (tOp rPowI (tOp rPowI (tC (.int 10)) (tC (.int 60))) (tC (.int 20)))) (gSub (tVar 1) (tVar 2) rSetL)) tNext))
  (tSeq (tIfS (tTest (tOp (rEqD K) (tVar 1) (tLst tNil))) (tAsg (tLst (tCons (tC (.int 0)) tNil)) (gName 1)) tNext)
  (tRet (tLst (tCons (tVar 1) (tCons (tC (.int 0)) tNil))))))
def spSource (K : PySem.W.Frag) : Sp := fun vs H Q _ => ∃ (a : Addr) (ns : List Int), vs = [.ref a] ∧ SqL K H a (ns.map V.int) ∧ ns.length ≤ 63 ∧
  ∀ s c H', Gw H H' → H s = none → H c = none → SrcAt H' s c (2 ^ 19999) → Q (.ref s) H'
theorem ints_shaped (ns : List Int) : SeqAt.shaped (.list (ns.map PyData.int)) = true := by
  have h1 : ∀ ns : List Int, PyData.canLayAll0 (ns.map PyData.int) = true := fun ns => by
    induction ns with
    | nil => rfl
    | cons x r ih => simp only [List.map_cons, PyData.canLayAll0, PyData.canLay0, ih, Bool.and_self]
  have h2 : ∀ ns : List Int, PyData.depthAll (ns.map PyData.int) = 0 := fun ns => by
    induction ns with
    | nil => rfl
    | cons x r ih => simp only [List.map_cons, PyData.depthAll, PyData.depth, ih, Nat.max_self]
  unfold SeqAt.shaped
  simp only [PyData.canLay0, PyData.depth, h1, h2]
  decide
theorem ints_dp {K : PySem.W.Frag} {H : Hp} : ∀ ns : List Int, DpAll K H (ns.map V.int) (ns.map PyData.int)
  | [] => .nil
  | _ :: r => .cons (.int _) (ints_dp r)
theorem big_nat : ((2 ^ 19999 : Nat) : Int) ≤ srcLine := by
  unfold srcLine
  have : (2 : Nat) ^ 19999 ≤ 2 ^ 20000 := Nat.pow_le_pow_right (by decide) (by decide)
  exact_mod_cast this
theorem pure_source {K : PySem.W.Frag} {De : Ends} {a : Addr} {ns : List Int} {H : Hp} (hS : SqL K H a (ns.map V.int)) (hlen : ns.length ≤ 63) (hq : ∀ s c H', Gw H H' → H s = none → H c = none → SrcAt H' s c (2 ^ 19999) → De.rt (.ref s) H') :
    t_source K De [some (.ref a), none, none] H := by
  refine ⟨_, rfl, 63, rfl, a, ns.map V.int, rfl, hS, fun c hc => ?_⟩
  obtain ⟨ms, em, lm⟩ : ∃ ms : List Int, cutV (ns.map V.int) none (some 63) = ms.map V.int ∧ ms.length ≤ 63 := by
    refine ⟨(ns.drop (HT.sIx (ns.map V.int).length 0 none)).take (HT.sIx (ns.map V.int).length (ns.map V.int).length (some 63) - HT.sIx (ns.map V.int).length 0 none), ?_, ?_⟩
    · unfold cutV
      rw [List.map_take, List.map_drop]
    · rw [List.length_take, List.length_drop]
      omega
  rw [em]
  have gw : Gw H (upd H c (.lst (ms.map V.int))) := Gw.new hc
  refine ⟨_, rfl, _, ms.length, rfl, .inl ⟨ms.map V.int, .inl (.inl upd_same), by rw [List.length_map]⟩, (ms.length : Int), rfl, by omega, by omega, ?_⟩
  refine for_range (lo := 0) (n := (ms.length : Int).toNat) (fun i σ H' => ∃ (x : Option V) (cs : List Int), σ = [some (.ref a), some (.ref c), x] ∧ cs.length = ms.length ∧ H' c = some (.lst (cs.map V.int)) ∧ Gw H H') ⟨none, ms, rfl, rfl, upd_same, gw⟩ ?_ ?_
  · rintro i σ H' hi ⟨x, cs, rfl, hcl, hcs, gw'⟩
    have hi' : i < cs.length := by omega
    have hat : atI (cs.map V.int) (0 + (i : Int)) = some (.int cs[i]) := by
      rw [Int.zero_add]
      exact atI_nat (by rw [List.getElem?_map, List.getElem?_eq_getElem hi']; rfl)
    refine ⟨_, rfl, _, rfl, c, _, _, _, rfl, rfl, .inl (.inl hcs), hat, cs[i], rfl, 10, 18, rfl, rfl, ⟨by decide, by decide⟩, _, _, rfl, rfl, _, rfl, ?_⟩
    refine ite2 (fun _ => ?_) (fun _ => ?_)
    · refine ⟨_, rfl, _, rfl, c, _, _, _, rfl, rfl, .inl (.inl hcs), hat, .inl ⟨cs[i], rfl, 10, 60, rfl, rfl, ⟨by decide, by decide⟩, _, 20, rfl, rfl, ⟨by decide, by decide⟩, _, _, rfl, rfl, (show (0 : Int) < (10 ^ (60 : Int).toNat) ^ (20 : Int).toNat by decide), ?_⟩⟩
      refine ⟨_, rfl, _, rfl, c, _, _, i, rfl, rfl, hcs, ?_, ?_⟩
      · rw [Int.zero_add, List.length_map]
        unfold ixN
        rw [if_pos (by omega), if_pos (by omega)]
        simp
      · refine ⟨some (.int (0 + (i : Int))), cs.set i (cs[i] % (10 ^ (60 : Int).toNat) ^ (20 : Int).toNat), rfl, by rw [List.length_set]; exact hcl, by rw [upd_same, List.map_set], fun b o hb => ?_⟩
        rw [upd_ne (ne_of_none hb hc)]
        exact gw' b o hb
    · exact ⟨some (.int (0 + (i : Int))), cs, rfl, hcl, hcs, gw'⟩
  · rintro σ H' ⟨x, cs, rfl, hcl, hcs, gw'⟩
    refine ⟨_, rfl, Nat.zero_le _, fun p hp => ?_⟩
    have npc : c ≠ p := ne_of_none hcs hp
    have gp : Gw H' (upd H' p (.lst [])) := Gw.new hp
    refine ⟨.list (cs.map PyData.int), .list [], .lst (.inl (.inl (gp _ _ hcs))) (ints_dp cs), .lst (.inl (.inl upd_same)) .nil, ints_shaped cs, by decide, _, rfl, ?_⟩
    have fin : ∀ (c' : Addr) (cs' : List Int) (H2 : Hp), Gw H H2 → H c' = none → H2 c' = some (.lst (cs'.map V.int)) → cs' ≠ [] → cs'.length ≤ 63 → ∀ x, tRet (tLst (tCons (tVar 1) (tCons (tC (.int 0)) tNil))) De [some (.ref a), some (.ref c'), x] H2 := fun c' cs' H2 g2 hc' h2 ne l2 x => by
      refine ⟨_, rfl, (by show 2 ≤ sizeLine; decide), fun s hs => ?_⟩
      have hs0 : H s = none := by
        cases z : H s with
        | none => rfl
        | some o => rw [g2 s o z] at hs; cases hs
      refine hq s c' _ (g2.trans (Gw.new hs)) hs0 hc' ⟨cs', 0, fun z => ?_, upd_same, ?_, ne, l2, by decide, ?_⟩
      · rw [z, h2] at hs; cases hs
      · rw [upd_ne (ne_of_none h2 hs)]; exact h2
      · rw [Int.zero_add]; exact big_nat
    dsimp only
    by_cases e : cs = []
    · subst e
      rw [if_pos (by rfl)]
      refine ⟨(by show 1 ≤ sizeLine; decide), fun q hq' => ?_⟩
      have hq0 : H q = none := by
        cases z : H q with
        | none => rfl
        | some o => rw [gp _ _ (gw' q o z)] at hq'; cases hq'
      exact fin q [0] _ ((gw'.trans gp).trans (Gw.new hq')) hq0 upd_same (by simp) (by decide) _
    · rw [if_neg ?_]
      · exact fin c cs _ (gw'.trans gp) hc (gp _ _ hcs) e (by omega) _
      · cases cs with
        | nil => exact absurd rfl e
        | cons x r => exact Bool.false_ne_true
theorem fn_source {P : Program} {w : World} {K : PySem.W.Frag} {mg : Str → Option Value} {base : Heap} {x qual : Str} {st : Stmt} {fa : Addr} {fd : FuncData} {N ps : List Str} {k : Nat} (F : Fun K x qual st fa fd) (S : FnScope N ps (defScope st)) (hN : N.length = 3) (hp : ps.length = 1)
    (body : ∀ (cdv : Value) (A : Around) (outer : List Env) (s : Shared) (H : Hp) (E : XK), Room k (A.deeper (envOfC qual (defScope st) s.heap.objs.size fa cdv)) → PSs (cxOf (L2.CX P w) P w K mg base N qual (defScope st) fa cdv A outer s H E) (defBody st) (t_source K)) : FnOk P w K mg base (L2.CX P w) (k + 1) fa fd ps (spSource K) := by
  refine F.okX S (fun vs H Q E h => ?_) (fun cdv A outer s H vs Q E hr h => ?_)
  · obtain ⟨a, ns, rfl, _⟩ := h
    rw [hp]; rfl
  · obtain ⟨a, ns, rfl, h1, h2, h3⟩ := h
    refine ⟨_, body cdv A outer s H E hr, ?_⟩
    have es : L2.start N [.ref a] = [some (.ref a), none, none] := by
      unfold L2.start
      rw [hN]; rfl
    rw [es]
    exact pure_source h1 h2 h3

/-! ### the law: its source, then the rest over data -/
/-- slots: the script, the source, the law's own -/
def spLaw (K : PySem.W.Frag) (n : Nat) (m : MS) : Sp := fun vs H Q _ => ∃ (a : Addr) (ns : List Int), vs = [.ref a] ∧ SqL K H a (ns.map V.int) ∧ ns.length ≤ 63 ∧
  m (.un :: .dat .src :: List.replicate n .un) { nx := fun _ => False, rt := fun d => ∃ b, d = .bl b ∧ b = true, bk := fun _ => False, ct := fun _ => False, ex := fun _ _ => False } ∧ ∀ H', Q (.bl true) H'
theorem fn_law {P : Program} {w : World} {K : PySem.W.Frag} {mg : Str → Option Value} {base : Heap} {ct : Str → Option Addr} {x qual : Str} {st : Stmt} {fa fS : Addr} {fd fdS : FuncData} {N : List Str} {px y : Str} {k c n : Nat} {ms : MS} {sts : List Stmt} {p1 p2 p3 p4 p5 : Pos} {z : Str}
    (F : Fun K x qual st fa fd) (S : FnScope N [px] (defScope st)) (hN : N.length = n + 2) (hc : c ≤ 2 ^ 19999) (hst : defBody st = .Assign [.Name y p1] (.Call (.Name z p2) [.Name px p3] [] p4) p5 :: sts)
    (FS : FnOk P w K mg base (L2.CX P w) k fS fdS [px] (spSource K)) (hm : mg z = some (.ref fS)) (kS : PySem.W.keepIn K (.ref fS) = true) (bS : Binds K fdS [px] [])
    (h0 : N[0]? = some px) (h1 : N[1]? = some y) (l0 : (defScope st).names.lookup px = some .local) (l1 : (defScope st).names.lookup y = some .local) (gz : (defScope st).names.lookup z = some .globalImplicit)
    (hdb : (px == ("__debug__" : Str)) = false := by decide) (hcd : (px == ("__classdict__" : Str)) = false := by decide) (hdz : (z == ("__debug__" : Str)) = false := by decide)
    (body : ∀ (cdv : Value) (A : Around) (outer : List Env) (s : Shared) (H : Hp) (E : XK) (f : FrC), f.g.K = K → f.g.ct = ct → Room k (A.deeper (envOfC qual (defScope st) s.heap.objs.size fa cdv)) →
      CB f (cxOf (L2.CX P w) P w K mg base N qual (defScope st) fa cdv A outer s H E) (fun cls d _ H => E cls d H) c sts ms) : FnOk P w K mg base (L2.CX P w) (k + 1) fa fd [px] (spLaw K n ms) := by
  refine F.okX S (fun vs H Q E h => ?_) (fun cdv A outer s H vs Q E hr h => ?_)
  · obtain ⟨a, ns, rfl, _⟩ := h
    rfl
  · obtain ⟨a, ns, rfl, hS, hl, hmm, hq⟩ := h
    rw [hst]
    have b := fun f hK hct => body cdv A outer s H E f hK hct hr
    have hr0 : PSs (cxOf (L2.CX P w) P w K mg base N qual (defScope st) fa cdv A outer s H E) sts (fun D σ H' => ∃ f : FrC, f.g.K = K ∧ f.g.ct = ct ∧ RS f (fun cls d _ H => E cls d H) c ms D σ H') := ⟨fun pins s σ H D I ⟨f, e1, e2, q⟩ => (b f e1 e2).run pins s σ H D I q⟩
    have hv : PE (cxOf (L2.CX P w) P w K mg base N qual (defScope st) fa cdv A outer s H E) (.Name px p3) (tVar 0) := pe_var h0 (.inl l0) hdb hcd
    have ht : Takes (cxOf (L2.CX P w) P w K mg base N qual (defScope st) fa cdv A outer s H E) (fun cls d _ H => E cls d H) := takes_of rfl rfl rfl rfl
    refine ⟨_, pss_cons (ps_asg (pe_callS FS hr gz hm kS bS (fun σ => passAt ht σ) (pa_cons hv pa_nil) hdz) (pg_name (i := 1) S.nd h1 (.inl l1))) hr0, ?_⟩
    have es : L2.start N [.ref a] = some (.ref a) :: none :: List.replicate n none := by
      unfold L2.start
      rw [hN]
      show some (V.ref a) :: List.replicate (n + 2 - 1) none = _
      rw [show n + 2 - 1 = n + 1 from rfl]; rfl
    rw [es]
    refine ⟨_, rfl, a, ns, rfl, hS, hl, fun so cl H1 gw hs hcn sa => ?_⟩
    refine ⟨⟨⟨K, ct, some (so, cl)⟩, fun b => b = so ∨ b = cl, H1⟩, rfl, rfl, fun b => b = so ∨ b = cl, 2 ^ 19999 - c, _, _, ?_, hmm, fun _ _ _ _ z _ => z.elim, ?_, fun _ _ _ _ z _ => z.elim, fun _ _ _ _ z _ => z.elim, fun _ _ _ _ _ _ _ z _ _ => z.elim⟩
    · obtain ⟨cells, turn, ne, e1, e2, r⟩ := id sa
      have dm : ∀ b, (b = so ∨ b = cl) → H1 b ≠ none := fun b hb => by
        rcases hb with rfl | rfl
        · rw [e1]; exact fun z => nomatch z
        · rw [e2]; exact fun z => nomatch z
      refine ⟨⟨fun b hb => ?_, dm, fun b hb => hb, fun b hb => .inl hb, dm, Kp.refl _, fun s' c' e => ?_⟩, ?_, fun i x o h2 h3 => ?_, fun i j p x y _ h2 o2 => ?_⟩
      · obtain ⟨s', c', e, z⟩ := hb
        cases e; exact z
      · cases e
        have : 2 ^ 19999 - c + c = 2 ^ 19999 := Nat.sub_add_cancel hc
        rw [this]; exact sa
      · simp
      · match i with
        | 0 => cases h2; trivial
        | 1 =>
          cases h2; cases h3
          exact ⟨_, rfl, .src rfl⟩
        | i + 2 =>
          have h2' : (List.replicate n Sl.un)[i]? = some x := h2
          rw [List.getElem?_replicate] at h2'
          split at h2'
          · cases h2'; trivial
          · cases h2'
      · match i with
        | 0 => cases h2; cases o2
        | 1 => cases h2; cases o2
        | i + 2 =>
          have h2' : (List.replicate n Sl.un)[i]? = some x := h2
          rw [List.getElem?_replicate] at h2'
          split at h2'
          · cases h2'; cases o2
          · cases h2'
    · rintro d v H' ⟨b, rfl, rfl⟩ _ _ r
      cases r
      exact hq H'

/-! ### a def of the top -/
structure Df (K : PySem.W.Frag) (mg : Str → Option Value) (x : Str) (st : Stmt) (ps : List Str) (fa : Addr) (fd : FuncData) : Prop where
  F : Fun K x x st fa fd
  g : mg x = some (.ref fa)
  b : Binds K fd ps []
theorem rel_abs {u : Value} {v : V} (h : absV u = some v) : RelV v u := by
  cases u <;> first | (cases h; first | rfl | exact ⟨_, rfl⟩) | cases h
theorem vals_abs : ∀ {us : List Value} {vs : List V}, us.map absV = vs.map some → Vals vs us
  | [], [], _ => .nil
  | [], _ :: _, h => by cases h
  | _ :: _, [], h => by cases h
  | u :: us, v :: vs, h => by
    rw [List.map_cons, List.map_cons] at h
    injection h with h1 h2
    exact .cons (rel_abs h1) (vals_abs h2)
theorem wr_of {K : PySem.W.Frag} {a : Addr} {o : Obj} {its : Array Value} {n : Nat} {vs : List V} (w : K.lookup a = some o) (c : o.cls = .type "tuple") (d : o.data = .seq its n) (r : its.toList.map absV = vs.map some) (hl : vs.length ≤ sizeLine := by decide) : WrT K a vs := by
  refine ⟨o, its, n, w, c, d, ?_, vals_abs r⟩
  have e := congrArg List.length r
  rw [List.length_map, List.length_map] at e
  rw [← Array.length_toList, e]
  exact hl
theorem cx_end {P : Program} {w : World} {H : Hp} {s : Shared} {e : Value} {s' : Shared} (h : L2.CX P w [] H s (fun _ _ _ => False) e s') : False := by
  obtain ⟨_, _, _, _, _, _, _, _, _, _, _, _, z⟩ := h
  exact z.elim
end Hm
set_option Elab.async false
set_option linter.all false
set_option maxRecDepth 100000
set_option maxHeartbeats 2000000
namespace Hm
open PySem L2

/-! ### words for the mathematics -/
theorem map_nat_inj : ∀ {a b : List Char}, a.map Char.toNat = b.map Char.toNat → a = b
  | [], [], _ => rfl
  | [], _ :: _, h => by cases h
  | _ :: _, [], h => by cases h
  | x :: a, y :: b, h => by
    rw [List.map_cons, List.map_cons] at h
    injection h with h1 h2
    rw [map_nat_inj h2, Char.ext (UInt32.toNat_inj.mp h1)]
@[simp] theorem ofString_inj {a b : String} : (Str.ofString a = Str.ofString b) = (a = b) := by
  apply propext
  constructor
  · intro h
    rw [Str.ofString_eq_toList, Str.ofString_eq_toList] at h
    have h1 : (a.toList.map Char.toNat).toArray = (b.toList.map Char.toNat).toArray := congrArg Str.cps h
    have h2 : a.toList.map Char.toNat = b.toList.map Char.toNat := by simpa using h1
    exact String.toList_inj.mp (map_nat_inj h2)
  · exact fun h => h ▸ rfl
@[simp] theorem mVar_eq (i : Nat) (ρ : Rho) (Q : DK) (u2 : XKD) : mVar i ρ Q u2 = (datOf ρ[i]? Q) := Eq.trans rfl rfl
@[simp] theorem mC_eq (d : D) (u0 : Rho) (Q : DK) (u2 : XKD) : mC d u0 Q u2 = (Q d) := Eq.trans rfl rfl
@[simp] theorem mOp_eq (op : D → D → DK → Prop) (a b : ME) (ρ : Rho) (Q : DK) (W : XKD) : mOp op a b ρ Q W = (a ρ (fun x => b ρ (fun y => op x y Q) W) W) := Eq.trans rfl rfl
@[simp] theorem mUn_eq (op : D → DK → Prop) (a : ME) (ρ : Rho) (Q : DK) (W : XKD) : mUn op a ρ Q W = (a ρ (fun x => op x Q) W) := Eq.trans rfl rfl
@[simp] theorem mNil_eq  (u0 : Rho) (Q : List D → Prop) (u2 : XKD) : mNil  u0 Q u2 = (Q []) := Eq.trans rfl rfl
@[simp] theorem mCons_eq (a : ME) (r : MA) (ρ : Rho) (Q : List D → Prop) (W : XKD) : mCons a r ρ Q W = (a ρ (fun x => r ρ (fun xs => Q (x :: xs)) W) W) := Eq.trans rfl rfl
@[simp] theorem mTup_eq (a : MA) (ρ : Rho) (Q : DK) (W : XKD) : mTup a ρ Q W = (a ρ (fun xs => xs.length ≤ sizeLine ∧ Q (.tup xs)) W) := Eq.trans rfl rfl
@[simp] theorem mLst_eq (a : MA) (ρ : Rho) (Q : List D → Prop) (W : XKD) : mLst a ρ Q W = (a ρ (fun xs => xs.length ≤ sizeLine ∧ Q xs) W) := Eq.trans rfl rfl
@[simp] theorem mFrz_eq (a : MA) (ρ : Rho) (Q : DK) (W : XKD) : mFrz a ρ Q W = (a ρ (fun xs => Q (.lst xs)) W) := Eq.trans rfl rfl
@[simp] theorem mCall_eq (fn : MF) (a : MA) (ρ : Rho) (Q : DK) (W : XKD) : mCall fn a ρ Q W = (a ρ (fun xs => fn xs Q W) W) := Eq.trans rfl rfl
@[simp] theorem mBlt_eq (fn : List D → DK → Prop) (a : MA) (ρ : Rho) (Q : DK) (W : XKD) : mBlt fn a ρ Q W = (a ρ (fun xs => fn xs Q) W) := Eq.trans rfl rfl
@[simp] theorem mTest_eq (a : ME) (ρ : Rho) (Q : Bool → Prop) (W : XKD) : mTest a ρ Q W = (a ρ (fun x => asB x Q) W) := Eq.trans rfl rfl
@[simp] theorem mTruth_eq (a : ME) (ρ : Rho) (Q : Bool → Prop) (W : XKD) : mTruth a ρ Q W = (a ρ (fun x => tru x Q) W) := Eq.trans rfl rfl
@[simp] theorem mAnd_eq (a b : MT) (ρ : Rho) (Q : Bool → Prop) (W : XKD) : mAnd a b ρ Q W = (a ρ (fun x => if x = true then b ρ Q W else Q false) W) := Eq.trans rfl rfl
@[simp] theorem mOr_eq (a b : MT) (ρ : Rho) (Q : Bool → Prop) (W : XKD) : mOr a b ρ Q W = (a ρ (fun x => if x = true then Q true else b ρ Q W) W) := Eq.trans rfl rfl
@[simp] theorem mNot_eq (a : MT) (ρ : Rho) (Q : Bool → Prop) (W : XKD) : mNot a ρ Q W = (a ρ (fun x => Q (!x)) W) := Eq.trans rfl rfl
@[simp] theorem mAndV_eq (a b : ME) (ρ : Rho) (Q : DK) (W : XKD) : mAndV a b ρ Q W = (a ρ (fun x => asB x fun c => if c = true then b ρ Q W else Q (.bl false)) W) := Eq.trans rfl rfl
@[simp] theorem mOrV_eq (a b : ME) (ρ : Rho) (Q : DK) (W : XKD) : mOrV a b ρ Q W = (a ρ (fun x => asB x fun c => if c = true then Q (.bl true) else b ρ Q W) W) := Eq.trans rfl rfl
@[simp] theorem mNotV_eq (a : ME) (ρ : Rho) (Q : DK) (W : XKD) : mNotV a ρ Q W = (a ρ (fun x => asB x fun c => Q (.bl (!c))) W) := Eq.trans rfl rfl
@[simp] theorem mIf_eq (c : MT) (a b : ME) (ρ : Rho) (Q : DK) (W : XKD) : mIf c a b ρ Q W = (c ρ (fun x => if x = true then a ρ Q W else b ρ Q W) W) := Eq.trans rfl rfl
@[simp] theorem mChain_eq (op op' : D → D → DK → Prop) (a b c : ME) (ρ : Rho) (Q : DK) (W : XKD) : mChain op op' a b c ρ Q W = (a ρ (fun x => b ρ (fun y => op x y (fun z => asB z fun k => if k = true then c ρ (fun w => op' y w (fun z' => asB z' fun k' => Q (.bl k'))) W else Q (.bl false))) W) W) := Eq.trans rfl rfl
@[simp] theorem mNext_eq  (ρ : Rho) (E : DEnds) : mNext  ρ E = (E.nx ρ) := Eq.trans rfl rfl
@[simp] theorem mSeq_eq (a b : MS) (ρ : Rho) (E : DEnds) : mSeq a b ρ E = (a ρ { E with nx := fun ρ' => b ρ' E }) := Eq.trans rfl rfl
@[simp] theorem mAsg_eq (i : Nat) (e : ME) (ρ : Rho) (E : DEnds) : mAsg i e ρ E = (e ρ (fun d => E.nx (ρ.set i (.dat d))) (E.ex ρ)) := Eq.trans rfl rfl
@[simp] theorem mAsgO_eq (i : Nat) (e : MA) (ρ : Rho) (E : DEnds) : mAsgO i e ρ E = (e ρ (fun ds => E.nx (ρ.set i (.own ds))) (E.ex ρ)) := Eq.trans rfl rfl
@[simp] theorem mDrop_eq (e : ME) (ρ : Rho) (E : DEnds) : mDrop e ρ E = (e ρ (fun _ => E.nx ρ) (E.ex ρ)) := Eq.trans rfl rfl
@[simp] theorem mRet_eq (e : ME) (ρ : Rho) (E : DEnds) : mRet e ρ E = (e ρ E.rt (E.ex ρ)) := Eq.trans rfl rfl
@[simp] theorem mRetN_eq  (u0 : Rho) (E : DEnds) : mRetN  u0 E = (E.rt .non) := Eq.trans rfl rfl
@[simp] theorem mIfS_eq (c : MT) (a b : MS) (ρ : Rho) (E : DEnds) : mIfS c a b ρ E = (c ρ (fun x => if x = true then a ρ E else b ρ E) (E.ex ρ)) := Eq.trans rfl rfl
@[simp] theorem mBrk_eq  (ρ : Rho) (E : DEnds) : mBrk  ρ E = (E.bk ρ) := Eq.trans rfl rfl
@[simp] theorem mCnt_eq  (ρ : Rho) (E : DEnds) : mCnt  ρ E = (E.ct ρ) := Eq.trans rfl rfl
@[simp] theorem gNm_eq (i : Nat) (d : D) (ρ : Rho) (Q : Rho → Prop) : gNm i d ρ Q = (Q (ρ.set i (.dat d))) := Eq.trans rfl rfl
@[simp] theorem gTp_eq (is : List Nat) (d : D) (ρ : Rho) (Q : Rho → Prop) : gTp is d ρ Q = (asT d fun ds => ds.length = is.length ∧ Q (setAll ρ is ds)) := Eq.trans rfl rfl
@[simp] theorem mTo_eq (e : ME) (g : MG) (ρ : Rho) (E : DEnds) : mTo e g ρ E = (e ρ (fun d => g d ρ E.nx) (E.ex ρ)) := Eq.trans rfl rfl
@[simp] theorem mPar_eq (i j : Nat) (a b : ME) (ρ : Rho) (E : DEnds) : mPar i j a b ρ E = (a ρ (fun x => b ρ (fun y => E.nx ((ρ.set i (.dat x)).set j (.dat y))) (E.ex ρ)) (E.ex ρ)) := Eq.trans rfl rfl
@[simp] theorem mFor_eq (it : ME) (g : MG) (body : MS) (ρ : Rho) (E : DEnds) : mFor it g body ρ E = (it ρ (fun d => asL d fun xs => mForL g body xs ρ E) (E.ex ρ)) := Eq.trans rfl rfl
@[simp] theorem mForT_eq (it : ME) (g : MG) (body : MS) (ρ : Rho) (E : DEnds) : mForT it g body ρ E = (it ρ (fun d => asT d fun xs => mForL g body xs ρ E) (E.ex ρ)) := Eq.trans rfl rfl
@[simp] theorem mForR1_eq (a : ME) (g : MG) (body : MS) (ρ : Rho) (E : DEnds) : mForR1 a g body ρ E = (a ρ (fun d => asI d fun j => (-(2 ^ 62) ≤ j ∧ j < 2 ^ 62) ∧ mForL g body (rngD 0 j.toNat) ρ E) (E.ex ρ)) := Eq.trans rfl rfl
@[simp] theorem mForR2_eq (a b : ME) (g : MG) (body : MS) (ρ : Rho) (E : DEnds) : mForR2 a b g body ρ E = (a ρ (fun x => b ρ (fun y => asI x fun i => asI y fun j => (-(2 ^ 62) ≤ i ∧ i < 2 ^ 62 ∧ -(2 ^ 62) ≤ j ∧ j < 2 ^ 62) ∧ mForL g body (rngD i (j - i).toNat) ρ E) (E.ex ρ)) (E.ex ρ)) := Eq.trans rfl rfl
@[simp] theorem mRaise_eq (x : Err) (ρ : Rho) (E : DEnds) : mRaise x ρ E = (E.ex ρ x) := Eq.trans rfl rfl
@[simp] theorem mFun_eq (k n : Nat) (b : MS) (ds : List D) (Q : DK) (W : XKD) : mFun k n b ds Q W = (ds.length = k ∧ b (ds.map Sl.dat ++ List.replicate (n - k) .un) { nx := fun _ => Q .non, rt := Q, bk := fun _ => False, ct := fun _ => False, ex := fun _ x => W x }) := Eq.trans rfl rfl
@[simp] theorem mForB_eq (N : Nat) (it : ME) (g : MG) (body : MS) (ρ : Rho) (E : DEnds) : mForB N it g body ρ E = (it ρ (fun d => asL d fun xs => xs.length ≤ N ∧ mForL g body xs ρ E) (E.ex ρ)) := Eq.trans rfl rfl
@[simp] theorem mNoP_eq  (u0 : Rho) (Q : Option Int → Prop) (u2 : XKD) : mNoP  u0 Q u2 = (Q none) := Eq.trans rfl rfl
@[simp] theorem mPart_eq (e : ME) (ρ : Rho) (Q : Option Int → Prop) (W : XKD) : mPart e ρ Q W = (e ρ (fun d => asI d fun i => Q (some i)) W) := Eq.trans rfl rfl
@[simp] theorem mSl_eq (e : ME) (lo hi : MO) (ρ : Rho) (Q : DK) (W : XKD) : mSl e lo hi ρ Q W = (e ρ (fun x => lo ρ (fun l => hi ρ (fun u => dSl x l u Q) W) W) W) := Eq.trans rfl rfl
@[simp] theorem mYes_eq  (u0 : Rho) (Q : Bool → Prop) (u2 : XKD) : mYes  u0 Q u2 = (Q true) := Eq.trans rfl rfl
@[simp] theorem mLc_eq (it : ME) (g : MG) (t : MT) (e : ME) (vs : List Nat) (ρ : Rho) (Q : List D → Prop) (W : XKD) : mLc it g t e vs ρ Q W = (it ρ (fun d => asL d fun xs => mLcL g t e (wipeD ρ vs) xs [] Q) W) := Eq.trans rfl rfl
@[simp] theorem mLcB_eq (N : Nat) (it : ME) (g : MG) (t : MT) (e : ME) (vs : List Nat) (ρ : Rho) (Q : List D → Prop) (W : XKD) : mLcB N it g t e vs ρ Q W = (it ρ (fun d => asL d fun xs => xs.length ≤ N ∧ mLcL g t e (wipeD ρ vs) xs [] Q) W) := Eq.trans rfl rfl
@[simp] theorem mLcT_eq (it : ME) (g : MG) (t : MT) (e : ME) (vs : List Nat) (ρ : Rho) (Q : List D → Prop) (W : XKD) : mLcT it g t e vs ρ Q W = (it ρ (fun d => asT d fun xs => mLcL g t e (wipeD ρ vs) xs [] Q) W) := Eq.trans rfl rfl
@[simp] theorem mLcR1_eq (a : ME) (g : MG) (t : MT) (e : ME) (vs : List Nat) (ρ : Rho) (Q : List D → Prop) (W : XKD) : mLcR1 a g t e vs ρ Q W = (a ρ (fun d => asI d fun j => (-(2 ^ 62) ≤ j ∧ j < 2 ^ 62) ∧ mLcL g t e (wipeD ρ vs) (rngD 0 j.toNat) [] Q) W) := Eq.trans rfl rfl
@[simp] theorem mLcR2_eq (a b : ME) (g : MG) (t : MT) (e : ME) (vs : List Nat) (ρ : Rho) (Q : List D → Prop) (W : XKD) : mLcR2 a b g t e vs ρ Q W = (a ρ (fun x => b ρ (fun y => asI x fun i => asI y fun j => (-(2 ^ 62) ≤ i ∧ i < 2 ^ 62 ∧ -(2 ^ 62) ≤ j ∧ j < 2 ^ 62) ∧ mLcL g t e (wipeD ρ vs) (rngD i (j - i).toNat) [] Q) W) W) := Eq.trans rfl rfl
@[simp] theorem mApp_eq (i : Nat) (e : ME) (ρ : Rho) (E : DEnds) : mApp i e ρ E = (match ρ[i]? with
  | some (.own ds) => e ρ (fun d => ds.length < sizeLine ∧ E.nx (ρ.set i (.own (ds ++ [d])))) (E.ex ρ)
  | _ => False) := Eq.trans rfl rfl
@[simp] theorem mFz_eq (i : Nat) (m : MS) (ρ : Rho) (E : DEnds) : mFz i m ρ E = (match ρ[i]? with
  | some (.own ds) => m (ρ.set i (.dat (.lst ds))) E
  | _ => m ρ E) := Eq.trans rfl rfl
@[simp] theorem setAll_nil {ρ : Rho} {ds : List D} : setAll ρ [] ds = ρ := Eq.trans rfl rfl
@[simp] theorem setAll_cons {ρ : Rho} {i : Nat} {is : List Nat} {d : D} {ds : List D} : setAll ρ (i :: is) (d :: ds) = setAll (ρ.set i (.dat d)) is ds := Eq.trans rfl rfl
@[simp] theorem mForL_nil {g : MG} {b : MS} {ρ : Rho} {E : DEnds} : mForL g b [] ρ E = E.nx ρ := Eq.trans rfl rfl
@[simp] theorem mForL_cons {g : MG} {b : MS} {x : D} {r : List D} {ρ : Rho} {E : DEnds} : mForL g b (x :: r) ρ E = g x ρ (fun ρ' => b ρ' { E with nx := fun ρ2 => mForL g b r ρ2 E, ct := fun ρ2 => mForL g b r ρ2 E, bk := E.nx }) := Eq.trans rfl rfl
@[simp] theorem wipeD_nil {ρ : Rho} : wipeD ρ [] = ρ := Eq.trans rfl rfl
@[simp] theorem wipeD_cons {ρ : Rho} {v : Nat} {vs : List Nat} : wipeD ρ (v :: vs) = (wipeD ρ vs).set v .un := Eq.trans rfl rfl
@[simp] theorem isi_eq {T : String} {d : D} : d.isi T = isiO T d.tyS := Eq.trans rfl rfl
@[simp] theorem dIsi_eq {T : String} {x : D} {Q : DK} : dIsi T x Q = (x.tyS.isSome = true ∧ Q (.bl (x.isi T))) := Eq.trans rfl rfl
@[simp] theorem asB_bl {b : Bool} {Q : Bool → Prop} : asB (.bl b) Q = Q b := Eq.trans rfl rfl
@[simp] theorem tru_non  {Q : Bool → Prop} : tru .non Q = Q false := Eq.trans rfl rfl
@[simp] theorem tru_bl {b : Bool} {Q : Bool → Prop} : tru (.bl b) Q = Q b := Eq.trans rfl rfl
@[simp] theorem tru_int {i : Int} {Q : Bool → Prop} : tru (.int i) Q = Q (i != 0) := Eq.trans rfl rfl
@[simp] theorem tru_str {s : Str} {Q : Bool → Prop} : tru (.str s) Q = (s.length ≤ sizeLine ∧ Q ((s.length : Int) != 0)) := Eq.trans rfl rfl
@[simp] theorem tru_tup {xs : List D} {Q : Bool → Prop} : tru (.tup xs) Q = Q (!xs.isEmpty) := Eq.trans rfl rfl
@[simp] theorem tru_lst {xs : List D} {Q : Bool → Prop} : tru (.lst xs) Q = Q (!xs.isEmpty) := Eq.trans rfl rfl
@[simp] theorem tru_dct {xs : List (Key × D)} {Q : Bool → Prop} : tru (.dct xs) Q = Q (!xs.isEmpty) := Eq.trans rfl rfl
@[simp] theorem asI_int {i : Int} {Q : Int → Prop} : asI (.int i) Q = Q i := Eq.trans rfl rfl
@[simp] theorem asL_lst {xs : List D} {Q : List D → Prop} : asL (.lst xs) Q = Q xs := Eq.trans rfl rfl
@[simp] theorem asT_tup {xs : List D} {Q : List D → Prop} : asT (.tup xs) Q = Q xs := Eq.trans rfl rfl
@[simp] theorem datOf_dat {d : D} {Q : DK} : datOf (some (.dat d)) Q = Q d := Eq.trans rfl rfl
@[simp] theorem dCmp_ii {p : Int → Int → Bool} {i j : Int} {Q : DK} : dCmp p (.int i) (.int j) Q = Q (.bl (p i j)) := Eq.trans rfl rfl
@[simp] theorem dAdd_ii {i j : Int} {Q : DK} : dAdd (.int i) (.int j) Q = Q (.int (i + j)) := Eq.trans rfl rfl
@[simp] theorem dAdd_ss {a b : Str} {Q : DK} : dAdd (.str a) (.str b) Q = (a.length + b.length ≤ sizeLine ∧ Q (.str (a ++ b))) := Eq.trans rfl rfl
@[simp] theorem dAdd_ll {a b : List D} {Q : DK} : dAdd (.lst a) (.lst b) Q = (a.length + b.length ≤ sizeLine ∧ Q (.lst (a ++ b))) := Eq.trans rfl rfl
@[simp] theorem dAdd_tt {a b : List D} {Q : DK} : dAdd (.tup a) (.tup b) Q = (a.length + b.length ≤ sizeLine ∧ Q (.tup (a ++ b))) := Eq.trans rfl rfl
@[simp] theorem dSub_ii {i j : Int} {Q : DK} : dSub (.int i) (.int j) Q = Q (.int (i - j)) := Eq.trans rfl rfl
@[simp] theorem dMul_ii {i j : Int} {Q : DK} : dMul (.int i) (.int j) Q = (CMulW i j ∧ Q (.int (i * j))) := Eq.trans rfl rfl
@[simp] theorem dMul_li {a : List D} {k : Int} {Q : DK} : dMul (.lst a) (.int k) Q = ((-(2 ^ 63) ≤ k ∧ k < 2 ^ 63 ∧ a.length * k.toNat ≤ sizeLine) ∧ Q (.lst (List.replicate k.toNat a).flatten)) := Eq.trans rfl rfl
@[simp] theorem dMod_ii {i j : Int} {Q : DK} : dMod (.int i) (.int j) Q = (0 < j ∧ Q (.int (i % j))) := Eq.trans rfl rfl
@[simp] theorem dDiv_ii {i j : Int} {Q : DK} : dDiv (.int i) (.int j) Q = (CDivW i j ∧ Q (.int (i / j))) := Eq.trans rfl rfl
@[simp] theorem dPow_ii {i j : Int} {Q : DK} : dPow (.int i) (.int j) Q = (CPowW i j ∧ Q (.int (i ^ j.toNat))) := Eq.trans rfl rfl
@[simp] theorem dNeg_i {i : Int} {Q : DK} : dNeg (.int i) Q = Q (.int (-i)) := Eq.trans rfl rfl
@[simp] theorem dIs_n {x : D} {Q : DK} : dIs x .non Q = Q (.bl x.isN) := by cases x <;> rfl
@[simp] theorem dIsNot_n {x : D} {Q : DK} : dIsNot x .non Q = Q (.bl (!x.isN)) := by cases x <;> rfl
@[simp] theorem dIn_l {neg : Bool} {x : D} {xs : List D} {Q : DK} : dInN neg x (.lst xs) Q = (x.flat = true ∧ xs.all D.flat = true ∧ Q (.bl (if neg then !D.isIn x xs else D.isIn x xs))) := by cases x <;> rfl
@[simp] theorem dIn_t {neg : Bool} {x : D} {xs : List D} {Q : DK} : dInN neg x (.tup xs) Q = (x.flat = true ∧ xs.all D.flat = true ∧ Q (.bl (if neg then !D.isIn x xs else D.isIn x xs))) := by cases x <;> rfl
@[simp] theorem dLen_l {xs : List D} {Q : DK} : dLen [.lst xs] Q = Q (.int xs.length) := Eq.trans rfl rfl
@[simp] theorem dLen_t {xs : List D} {Q : DK} : dLen [.tup xs] Q = Q (.int xs.length) := Eq.trans rfl rfl
@[simp] theorem dLen_s {s : Str} {Q : DK} : dLen [.str s] Q = (s.length ≤ sizeLine ∧ Q (.int s.length)) := Eq.trans rfl rfl
@[simp] theorem dAbs_i {i : Int} {Q : DK} : dAbs [.int i] Q = Q (.int (if i < 0 then -i else i)) := Eq.trans rfl rfl
@[simp] theorem dInt_i {i : Int} {Q : DK} : dInt [.int i] Q = Q (.int i) := Eq.trans rfl rfl
@[simp] theorem dInt_b {k : Bool} {Q : DK} : dInt [.bl k] Q = Q (.int (if k then 1 else 0)) := Eq.trans rfl rfl
@[simp] theorem dMax2_ii {i j : Int} {Q : DK} : dMax2 [.int i, .int j] Q = Q (.int (if j > i then j else i)) := Eq.trans rfl rfl
@[simp] theorem dMin2_ii {i j : Int} {Q : DK} : dMin2 [.int i, .int j] Q = Q (.int (if j < i then j else i)) := Eq.trans rfl rfl
@[simp] theorem dList_l {xs : List D} {Q : DK} : dList [.lst xs] Q = Q (.lst xs) := Eq.trans rfl rfl
@[simp] theorem dList_t {xs : List D} {Q : DK} : dList [.tup xs] Q = Q (.lst xs) := Eq.trans rfl rfl
@[simp] theorem dSl_l {xs : List D} {lo hi : Option Int} {Q : DK} : dSl (.lst xs) lo hi Q = Q (.lst (cutD xs lo hi)) := Eq.trans rfl rfl
@[simp] theorem dSl_t {xs : List D} {lo hi : Option Int} {Q : DK} : dSl (.tup xs) lo hi Q = Q (.tup (cutD xs lo hi)) := Eq.trans rfl rfl
@[simp] theorem dSl_s {z : Str} {lo hi : Option Int} {Q : DK} : dSl (.str z) lo hi Q = (z.length ≤ sizeLine ∧ Q (.str (cutS z lo hi))) := Eq.trans rfl rfl
@[simp] theorem isN_non : D.isN (D.non) = true := Eq.trans rfl rfl
@[simp] theorem flat_non : D.flat (D.non) = true := Eq.trans rfl rfl
@[simp] theorem tyS_non : D.tyS (D.non) = some "NoneType" := Eq.trans rfl rfl
@[simp] theorem pure_non : D.pure (D.non) = true := Eq.trans rfl rfl
@[simp] theorem isN_bl {b : Bool} : D.isN (D.bl b) = false := Eq.trans rfl rfl
@[simp] theorem flat_bl {b : Bool} : D.flat (D.bl b) = true := Eq.trans rfl rfl
@[simp] theorem tyS_bl {b : Bool} : D.tyS (D.bl b) = some "bool" := Eq.trans rfl rfl
@[simp] theorem pure_bl {b : Bool} : D.pure (D.bl b) = true := Eq.trans rfl rfl
@[simp] theorem isN_int {i : Int} : D.isN (D.int i) = false := Eq.trans rfl rfl
@[simp] theorem flat_int {i : Int} : D.flat (D.int i) = true := Eq.trans rfl rfl
@[simp] theorem tyS_int {i : Int} : D.tyS (D.int i) = some "int" := Eq.trans rfl rfl
@[simp] theorem pure_int {i : Int} : D.pure (D.int i) = true := Eq.trans rfl rfl
@[simp] theorem isN_str {s : Str} : D.isN (D.str s) = false := Eq.trans rfl rfl
@[simp] theorem flat_str {s : Str} : D.flat (D.str s) = true := Eq.trans rfl rfl
@[simp] theorem tyS_str {s : Str} : D.tyS (D.str s) = some "str" := Eq.trans rfl rfl
@[simp] theorem pure_str {s : Str} : D.pure (D.str s) = true := Eq.trans rfl rfl
@[simp] theorem isN_tup {xs : List D} : D.isN (D.tup xs) = false := Eq.trans rfl rfl
@[simp] theorem flat_tup {xs : List D} : D.flat (D.tup xs) = false := Eq.trans rfl rfl
@[simp] theorem tyS_tup {xs : List D} : D.tyS (D.tup xs) = some "tuple" := Eq.trans rfl rfl
@[simp] theorem pure_tup {xs : List D} : D.pure (D.tup xs) = pures xs := Eq.trans rfl rfl
@[simp] theorem isN_lst {xs : List D} : D.isN (D.lst xs) = false := Eq.trans rfl rfl
@[simp] theorem flat_lst {xs : List D} : D.flat (D.lst xs) = false := Eq.trans rfl rfl
@[simp] theorem tyS_lst {xs : List D} : D.tyS (D.lst xs) = some "list" := Eq.trans rfl rfl
@[simp] theorem pure_lst {xs : List D} : D.pure (D.lst xs) = pures xs := Eq.trans rfl rfl
@[simp] theorem isN_dct {kv : List (Key × D)} : D.isN (D.dct kv) = false := Eq.trans rfl rfl
@[simp] theorem flat_dct {kv : List (Key × D)} : D.flat (D.dct kv) = false := Eq.trans rfl rfl
@[simp] theorem tyS_dct {kv : List (Key × D)} : D.tyS (D.dct kv) = some "dict" := Eq.trans rfl rfl
@[simp] theorem pure_dct {kv : List (Key × D)} : D.pure (D.dct kv) = false := Eq.trans rfl rfl
@[simp] theorem isN_exc {e : Str} {fs : List (Str × D)} : D.isN (D.exc e fs) = false := Eq.trans rfl rfl
@[simp] theorem flat_exc {e : Str} {fs : List (Str × D)} : D.flat (D.exc e fs) = false := Eq.trans rfl rfl
@[simp] theorem tyS_exc {e : Str} {fs : List (Str × D)} : D.tyS (D.exc e fs) = none := Eq.trans rfl rfl
@[simp] theorem pure_exc {e : Str} {fs : List (Str × D)} : D.pure (D.exc e fs) = false := Eq.trans rfl rfl
@[simp] theorem isN_src : D.isN (D.src) = false := Eq.trans rfl rfl
@[simp] theorem flat_src : D.flat (D.src) = false := Eq.trans rfl rfl
@[simp] theorem tyS_src : D.tyS (D.src) = none := Eq.trans rfl rfl
@[simp] theorem pure_src : D.pure (D.src) = false := Eq.trans rfl rfl
@[simp] theorem py_non : D.py (D.non) = PyData.none := Eq.trans rfl rfl
@[simp] theorem py_bl {b : Bool} : D.py (D.bl b) = PyData.bool b := Eq.trans rfl rfl
@[simp] theorem py_int {i : Int} : D.py (D.int i) = PyData.int i := Eq.trans rfl rfl
@[simp] theorem py_str {s : Str} : D.py (D.str s) = PyData.str s := Eq.trans rfl rfl
@[simp] theorem py_tup {xs : List D} : D.py (D.tup xs) = PyData.tuple (pys xs) := Eq.trans rfl rfl
@[simp] theorem py_lst {xs : List D} : D.py (D.lst xs) = PyData.list (pys xs) := Eq.trans rfl rfl
@[simp] theorem isiO_some {T a : String} : isiO T (some a) = (a == T || (a == "bool" && T == "int")) := Eq.trans rfl rfl
@[simp] theorem pys_nil : pys [] = [] := Eq.trans rfl rfl
@[simp] theorem pys_cons {x : D} {r : List D} : pys (x :: r) = x.py :: pys r := Eq.trans rfl rfl
@[simp] theorem pures_nil : pures [] = true := Eq.trans rfl rfl
@[simp] theorem pures_cons {x : D} {r : List D} : pures (x :: r) = (x.pure && pures r) := Eq.trans rfl rfl
@[simp] theorem eqF_non_non : D.eqF (D.non) (D.non) = true := Eq.trans rfl rfl
@[simp] theorem eqF_non_bl {y : Bool} : D.eqF (D.non) (D.bl y) = false := Eq.trans rfl rfl
@[simp] theorem eqF_non_int {y : Int} : D.eqF (D.non) (D.int y) = false := Eq.trans rfl rfl
@[simp] theorem eqF_non_str {y : Str} : D.eqF (D.non) (D.str y) = false := Eq.trans rfl rfl
@[simp] theorem eqF_bl_non {x : Bool} : D.eqF (D.bl x) (D.non) = false := Eq.trans rfl rfl
@[simp] theorem eqF_bl_bl {x : Bool} {y : Bool} : D.eqF (D.bl x) (D.bl y) = (x == y) := Eq.trans rfl rfl
@[simp] theorem eqF_bl_int {x : Bool} {y : Int} : D.eqF (D.bl x) (D.int y) = ((if x then 1 else 0) == y) := Eq.trans rfl rfl
@[simp] theorem eqF_bl_str {x : Bool} {y : Str} : D.eqF (D.bl x) (D.str y) = false := Eq.trans rfl rfl
@[simp] theorem eqF_int_non {x : Int} : D.eqF (D.int x) (D.non) = false := Eq.trans rfl rfl
@[simp] theorem eqF_int_bl {x : Int} {y : Bool} : D.eqF (D.int x) (D.bl y) = (x == (if y then 1 else 0)) := Eq.trans rfl rfl
@[simp] theorem eqF_int_int {x : Int} {y : Int} : D.eqF (D.int x) (D.int y) = (x == y) := Eq.trans rfl rfl
@[simp] theorem eqF_int_str {x : Int} {y : Str} : D.eqF (D.int x) (D.str y) = false := Eq.trans rfl rfl
@[simp] theorem eqF_str_non {x : Str} : D.eqF (D.str x) (D.non) = false := Eq.trans rfl rfl
@[simp] theorem eqF_str_bl {x : Str} {y : Bool} : D.eqF (D.str x) (D.bl y) = false := Eq.trans rfl rfl
@[simp] theorem eqF_str_int {x : Str} {y : Int} : D.eqF (D.str x) (D.int y) = false := Eq.trans rfl rfl
@[simp] theorem eqF_str_str {x : Str} {y : Str} : D.eqF (D.str x) (D.str y) = (x == y) := Eq.trans rfl rfl
@[simp] theorem cdiv2 (i : Int) : CDivW i 2 = True := eq_true ⟨by decide, by decide⟩
@[simp] theorem cdiv10 (i : Int) : CDivW i 10 = True := eq_true ⟨by decide, by decide⟩
theorem cdiv {i j : Int} (h : 0 < j) (h2 : j < 2 ^ 8000) : CDivW i j := by
  refine ⟨h, Nat.lt_of_lt_of_le (small_log (b := 8000) ?_ (by decide)) (by decide)⟩
  have e : j = (j.natAbs : Int) := by omega
  rw [e] at h2
  exact_mod_cast h2
/-- below 2 ^ 4000 in size -/
def Sm (i : Int) : Prop := i.natAbs < 2 ^ 4000
theorem cmul {i j : Int} (h : Sm i) (h2 : Sm j) : CMulW i j := wide_mul (a := 4000) (b := 4000) h h2 (by decide) (by decide) (by decide)
theorem sm_lit {i : Int} (h : i.natAbs < 2 ^ 200) : Sm i := Nat.lt_trans h (Nat.pow_lt_pow_right (by decide) (by decide))
theorem pow4000 : (2 : Nat) ^ 300 < 2 ^ 4000 := Nat.pow_lt_pow_right (by decide) (by decide)
theorem sm_of {i : Int} (h1 : -(10 ^ 90) ≤ i) (h2 : i ≤ 10 ^ 90) : Sm i := by
  unfold Sm
  have : i.natAbs ≤ 10 ^ 90 := by omega
  exact Nat.lt_of_le_of_lt this (Nat.lt_trans (by decide) pow4000)
@[simp] theorem mDraw_eq {lim : Int} {Q : DK} {W : XKD} : m_draw [.src, .int lim] Q W = ((0 < lim ∧ lim < 2 ^ 200) ∧ ∀ r, 0 ≤ r → r < lim → Q (.int r)) := Eq.trans rfl rfl
@[simp] theorem sz_eq : sizeLine = 16777216 := sizeLine_eq
@[simp] theorem cpow10 {j : Int} : CPowW 10 j = (0 ≤ j ∧ 4 * j ≤ 134217728) := Eq.trans rfl rfl
@[simp] theorem eq_ii {i j : Int} {Q : DK} : dEq (.int i) (.int j) Q = Q (.bl (decide (i = j))) := Eq.trans rfl rfl
@[simp] theorem eq_ss {i j : Str} {Q : DK} : dEq (.str i) (.str j) Q = Q (.bl (decide (i = j))) := Eq.trans rfl rfl
@[simp] theorem eq_bb {i j : Bool} {Q : DK} : dEq (.bl i) (.bl j) Q = Q (.bl (decide (i = j))) := Eq.trans rfl rfl
@[simp] theorem ne_ii {i j : Int} {Q : DK} : dNe (.int i) (.int j) Q = Q (.bl (!decide (i = j))) := Eq.trans rfl rfl
@[simp] theorem ne_ss {i j : Str} {Q : DK} : dNe (.str i) (.str j) Q = Q (.bl (!decide (i = j))) := Eq.trans rfl rfl
@[simp] theorem ne_bb {i j : Bool} {Q : DK} : dNe (.bl i) (.bl j) Q = Q (.bl (!decide (i = j))) := Eq.trans rfl rfl
@[simp] theorem eq_ll {a b : List D} {Q : DK} : dEq (.lst a) (.lst b) Q = ((D.lst a).okE = true ∧ (D.lst b).okE = true ∧ Q (.bl ((D.lst a).eqv (.lst b)))) := Eq.trans rfl rfl
@[simp] theorem ne_ll {a b : List D} {Q : DK} : dNe (.lst a) (.lst b) Q = ((D.lst a).okE = true ∧ (D.lst b).okE = true ∧ Q (.bl (!(D.lst a).eqv (.lst b)))) := Eq.trans rfl rfl
@[simp] theorem eq_tt {a b : List D} {Q : DK} : dEq (.tup a) (.tup b) Q = ((D.tup a).okE = true ∧ (D.tup b).okE = true ∧ Q (.bl ((D.tup a).eqv (.tup b)))) := Eq.trans rfl rfl
@[simp] theorem ne_tt {a b : List D} {Q : DK} : dNe (.tup a) (.tup b) Q = ((D.tup a).okE = true ∧ (D.tup b).okE = true ∧ Q (.bl (!(D.tup a).eqv (.tup b)))) := Eq.trans rfl rfl
theorem lim_ok {lim : Int} (h : 0 < lim) (h2 : lim < 2 ^ 200) : 0 < lim ∧ lim < 2 ^ 8000 := by
  refine ⟨h, Int.lt_trans h2 ?_⟩
  have : (2 : Nat) ^ 200 < 2 ^ 8000 := Nat.pow_lt_pow_right (by decide) (by decide)
  exact_mod_cast this
theorem ix_lst {xs : List D} {n : Nat} {Q : DK} : dIx (.lst xs) (.int (OfNat.ofNat n)) Q = (∃ d, xs[n]? = some d ∧ Q d) := by
  apply propext
  show (∃ d, atI xs ((n : Nat) : Int) = some d ∧ Q d) ↔ _
  constructor
  · rintro ⟨d, h, q⟩
    obtain ⟨j, h1, h2, h3, _⟩ := atI_get h
    refine ⟨d, ?_, q⟩
    have : ixN xs.length (n : Int) = some j := by
      unfold atI at h
      cases e : ixN xs.length (n : Int) with
      | none => rw [e] at h; cases h
      | some k => rw [(ixN_seq e).1] at h1; rw [h1]
    unfold ixN at this
    rw [if_pos (by omega)] at this
    split at this
    · have e : n = j := by simpa using this
      rw [e]; exact h2
    · cases this
  · rintro ⟨d, h, q⟩
    exact ⟨d, atI_nat h, q⟩
theorem ix_tup {xs : List D} {n : Nat} {Q : DK} : dIx (.tup xs) (.int (OfNat.ofNat n)) Q = (∃ d, xs[n]? = some d ∧ Q d) := by
  have h := ix_lst (xs := xs) (n := n) (Q := Q)
  exact h
@[simp] theorem ixl0 {a : D} {r : List D} {Q : DK} : dIx (.lst (a :: r)) (.int 0) Q = Q a := by have := ix_lst (xs := a :: r) (n := 0) (Q := Q); simpa using this
@[simp] theorem ixl1 {a b : D} {r : List D} {Q : DK} : dIx (.lst (a :: b :: r)) (.int 1) Q = Q b := by have := ix_lst (xs := a :: b :: r) (n := 1) (Q := Q); simpa using this
@[simp] theorem ixl2 {a b c : D} {r : List D} {Q : DK} : dIx (.lst (a :: b :: c :: r)) (.int 2) Q = Q c := by have := ix_lst (xs := a :: b :: c :: r) (n := 2) (Q := Q); simpa using this
@[simp] theorem ixt0 {a : D} {r : List D} {Q : DK} : dIx (.tup (a :: r)) (.int 0) Q = Q a := ixl0
@[simp] theorem ixt1 {a b : D} {r : List D} {Q : DK} : dIx (.tup (a :: b :: r)) (.int 1) Q = Q b := ixl1
@[simp] theorem ixt2 {a b c : D} {r : List D} {Q : DK} : dIx (.tup (a :: b :: c :: r)) (.int 2) Q = Q c := ixl2
theorem ix_at {xs : List D} {i : Int} {Q : DK} (h0 : 0 ≤ i) (h1 : i < xs.length) (h : ∀ d ∈ xs, Q d) : dIx (.lst xs) (.int i) Q := by
  obtain ⟨n, rfl⟩ := Int.eq_ofNat_of_zero_le h0
  have hn : n < xs.length := by omega
  exact ⟨xs[n], atI_nat (List.getElem?_eq_getElem hn), h _ (List.getElem_mem hn)⟩
/-- loops -/
theorem forL {g : MG} {body : MS} {E : DEnds} {xs : List D} {ρ : Rho} (I : Nat → Rho → Prop) (h0 : I 0 ρ) (hd : ∀ ρ, I xs.length ρ → E.nx ρ)
    (hs : ∀ (i : Nat) x ρ (k : Rho → Prop), xs[i]? = some x → I i ρ → (∀ ρ', I (i + 1) ρ' → k ρ') → g x ρ fun ρ' => body ρ' { E with nx := k, ct := k, bk := E.nx }) : mForL g body xs ρ E := by
  have key : ∀ (n i : Nat) ρ, n + i = xs.length → I i ρ → mForL g body (xs.drop i) ρ E := by
    intro n
    induction n with
    | zero =>
      intro i ρ hi h
      rw [List.drop_of_length_le (by omega)]
      exact hd ρ (by rw [← hi, Nat.zero_add]; exact h)
    | succ n ih =>
      intro i ρ hi h
      have hl : i < xs.length := by omega
      have e : xs[i]? = some xs[i] := List.getElem?_eq_getElem hl
      rw [drop_get e]
      exact hs i _ ρ _ e h fun ρ' h' => ih (i + 1) ρ' (by omega) h'
  exact key xs.length 0 ρ (by omega) h0
theorem rng_get {lo : Int} {n i : Nat} {x : D} (h : (rngD lo n)[i]? = some x) : i < n ∧ x = .int (lo + (i : Nat)) := by
  unfold rngD at h
  rw [List.getElem?_map] at h
  by_cases hi : i < n
  · rw [List.getElem?_range hi] at h
    exact ⟨hi, (Option.some.inj h).symm⟩
  · rw [List.getElem?_eq_none (by rw [List.length_range]; omega)] at h
    cases h
theorem rng_len {lo : Int} {n : Nat} : (rngD lo n).length = n := by unfold rngD; rw [List.length_map, List.length_range]
theorem forR {g : MG} {body : MS} {E : DEnds} {lo : Int} {n : Nat} {ρ : Rho} (I : Nat → Rho → Prop) (h0 : I 0 ρ) (hd : ∀ ρ, I n ρ → E.nx ρ)
    (hs : ∀ (i : Nat) ρ (k : Rho → Prop), i < n → I i ρ → (∀ ρ', I (i + 1) ρ' → k ρ') → g (.int (lo + (i : Nat))) ρ fun ρ' => body ρ' { E with nx := k, ct := k, bk := E.nx }) : mForL g body (rngD lo n) ρ E := by
  refine forL I h0 (by rw [rng_len]; exact hd) fun i x ρ k hx hI hk => ?_
  obtain ⟨h1, rfl⟩ := rng_get hx
  exact hs i ρ k h1 hI hk
theorem lcI {g : MG} {t : MT} {e : ME} {ρ : Rho} {xs : List D} {Q : List D → Prop} (hz : xs.length ≤ sizeLine) (I : Nat → List D → Prop) (h0 : I 0 []) (hd : ∀ acc, I xs.length acc → Q acc) (hl : ∀ i acc, I i acc → acc.length ≤ i)
    (hs : ∀ (i : Nat) x acc (k : List D → Prop), xs[i]? = some x → I i acc → acc.length < sizeLine → (∀ acc', I (i + 1) acc' → k acc') →
      g x ρ fun ρ' => t ρ' (fun b => if b = true then e ρ' (fun y => acc.length < sizeLine ∧ k (acc ++ [y])) (fun _ => False) else k acc) (fun _ => False)) : mLcL g t e ρ xs [] Q := by
  have key : ∀ (n i : Nat) acc, n + i = xs.length → I i acc → mLcL g t e ρ (xs.drop i) acc Q := by
    intro n
    induction n with
    | zero =>
      intro i acc hi h
      rw [List.drop_of_length_le (by omega)]
      exact hd acc (by rw [← hi, Nat.zero_add]; exact h)
    | succ n ih =>
      intro i acc hi h
      have hl' : i < xs.length := by omega
      have e' : xs[i]? = some xs[i] := List.getElem?_eq_getElem hl'
      have := hl i acc h
      rw [drop_get e']
      exact hs i _ acc _ e' h (by omega) fun acc' h' => ih (i + 1) acc' (by omega) h'
  exact key xs.length 0 [] (by omega) h0
/-- each item gives one -/
theorem lcMap {g : MG} {e : ME} {ρ : Rho} {xs : List D} {Q : List D → Prop} (F : D → D) (hz : xs.length ≤ sizeLine) (hd : Q (xs.map F)) (hs : ∀ x ∈ xs, ∀ k : DK, k (F x) → g x ρ fun ρ' => e ρ' k (fun _ => False)) : mLcL g mYes e ρ xs [] Q := by
  refine lcI hz (fun i acc => acc = (xs.take i).map F) rfl (fun acc h => ?_) (fun i acc h => ?_) (fun i x acc k hx h hl hk => ?_)
  · rw [h, List.take_length]; exact hd
  · rw [h, List.length_map, List.length_take]; omega
  · have hm : x ∈ xs := List.mem_of_getElem? hx
    show g x ρ fun ρ' => (if true = true then e ρ' (fun y => acc.length < sizeLine ∧ k (acc ++ [y])) (fun _ => False) else k acc)
    refine hs x hm _ ⟨hl, hk _ ?_⟩
    rw [h, List.take_add_one, hx, List.map_append]; rfl
end Hm
set_option Elab.async false
set_option linter.all false
set_option maxRecDepth 100000
set_option maxHeartbeats 2000000
namespace Hm
open PySem L2 PySem.Spec PyProof.Rows

/-! ### try: a caught error that is kept -/
theorem trk_ok {P : Program} {w : World} {H : Hp} {h : Heap} {a : Addr} {cls : Value} {d : Option Addr} {oe : Obj} {vs : Array Value} (e : h.get? a = some oe) (z : Zc cls d oe) (q : oe.data = .fields vs) : ObjOk P w H h a (ExO cls a d) :=
  ⟨⟨oe, vs, e, z, q⟩, ⟨oe, e⟩, fun _ _ ⟨o, v, x, r⟩ k => ⟨o, v, k o x, r⟩⟩
section
variable {X : Cx} {pins : List (Addr × Obj)} {σ : L2.St} {H : Hp} {s : Shared}
theorem trk_hok {P : Program} {w : World} {h : Heap} {a : Addr} {o : HO} (x : HOk P w H h) (hn : H a = none) (new : ObjOk P w (upd H a o) h a o) : HOk P w (upd H a o) h := by
  intro b u e
  by_cases hb : b = a
  · subst hb; rw [upd_same] at e; cases e; exact new
  · rw [upd_ne hb] at e
    exact (x b u e).stay (fun _ _ _ q => q) (fun c q => (upd_ne (ne_of_none q hn)).trans q) fun c xs q => (upd_ne (ne_of_none q hn)).trans q
/-- an object that nobody knew of at the entry is taken into the abstract heap -/
theorem Inv_track {a : Addr} {o : HO} {ob : Obj} (I : Inv X pins σ H s) (hn : H a = none) (e : s.heap.get? a = some ob) (nc : ∀ v, ob.data ≠ .cell v) (nL : a ≠ X.env.locals) (n0 : X.s_0.heap.get? a = none) (np : ∀ p ∈ X.pn ++ pins, p.1 ≠ a)
    (new : ObjOk X.prog X.w (upd H a o) s.heap a o) : Inv X pins σ (upd H a o) s where
  ok := I.ok
  os := I.os
  bare := I.bare
  base := { keep := I.base.keep, slot := I.base.slot, there := I.base.there,
            free := fun b u q n nx => (upd_ne fun z => by rw [z, n0] at q; cases q).trans (I.base.free b u q n nx),
            tups := fun b xs q => (upd_ne (ne_of_none (I.base.tups b xs q) hn)).trans (I.base.tups b xs q),
            frzs := fun b u xs q => (upd_ne (ne_of_none (I.base.frzs b u xs q) hn)).trans (I.base.frzs b u xs q),
            tbls := fun b ps q => by obtain ⟨m, z⟩ := I.base.tbls b ps q; exact ⟨m, (upd_ne (ne_of_none z hn)).trans z⟩ }
  loc := I.loc
  cell := I.cell
  free := (upd_ne (Ne.symm nL)).trans I.free
  freeC := fun x c q => (upd_ne fun z => by
    obtain ⟨v, o', h1, h2⟩ := I.cell x c q
    rw [z, e] at h1; cases h1
    exact nc v h2).trans (I.freeC x c q)
  pin := fun p hp => by
    obtain ⟨h1, h2, h3⟩ := I.pin p hp
    exact ⟨h1, (upd_ne (np p hp)).trans h2, h3⟩
  hok := trk_hok I.hok hn new
  len := I.len
end
/-- what 'except x as n: suite' asks of an error of the body: it is held behind the suite -/
def wKeep (K : PySem.W.Frag) (c : Value) (i : Nat) (ts : Addr → Value → Option Addr → TS) (Wout : WX) (De : Ends) : WX := fun cls d σ H =>
  ∃ b, PySem.W.exmOne K cls c = some b ∧ (b = true → ∀ a, H a = none → i < σ.length → ts a cls d { nx := fun σ' H' => De.nx (σ'.set i none) (upd H' a (ExO cls a d)), rt := fun _ _ => False, bk := fun _ _ => False, ct := fun _ _ => False } (σ.set i (some (.ref a))) H) ∧
    (b = false → Wout cls d σ H)
section
variable {X : Cx} {x n : Str} {c : Value} {i : Nat} {body suite : List Stmt} {b0 : Stmt} {np pos pos' : Pos} {tb : WX → TS} {ts : Addr → Value → Option Addr → TS} {Wout : WX}
theorem ps_try_keep (hex : X.ex = []) (hst : X.stack = X.env :: X.outer) (hfm : X.env.frame = some X.env.locals) (hND : X.N.Nodup) (hi : X.N[i]? = some n) (hln : X.env.kindOf n = some .local) (hcn : Names X x c) (tk : Takes X Wout)
    (hb : ∀ (W : WX) (pn : List (Addr × Obj)) (xe : Value → Shared → Prop), Takes (X.tr pn xe) W → PassesOwn (model X.prog X.w) X.A X.env xe → PSs (X.tr pn xe) body (tb W))
    (hsu : ∀ (a : Addr) (oe : Obj) (cls : Value) (d : Option Addr) (pn : List (Addr × Obj)), PSs (X.suite a ((a, oe) :: pn)) (b0 :: suite) (ts a cls d)) :
    PS X (.Try body [.ExceptHandler (some (.Name x np)) (some n) (b0 :: suite) pos'] [] [] pos) (fun De σ H => tb (wKeep X.K c i ts Wout De) De σ H) := by
  refine ⟨fun pins s σ H De I h => wpAny_Try_except ?_⟩
  have ok := I.ok
  have hfrs : X.A.frames = some (X.env :: X.outer) := ok.frames.trans (congrArg some hst)
  refine wpAny_mono ((hb (wKeep X.K c i ts Wout De) (X.pn ++ pins) _ (fun u s' xx => ?_) PassesOwn.looking).run [] s σ H De (I.toTry _) h) (fun f s1 hsp => ?_) (fun e s1 he => he)
  · obtain ⟨a, G, sI, pins', σ1, H1, cls, d, rfl, J', nb, up, sky, na, os, ag, b, hb1, hyes, hno⟩ := xx
    have J : Inv X pins σ1 H1 sI := J'.ofTry ok
    have sky2 : Sky G (X.env :: X.outer) a (Zc cls d) X.env.locals s'.heap := hst ▸ sky
    refine Sky.land Zc.steady hfrs hfm sky2 fun h3 fl3 up3 => ?_
    have J3 : Inv X pins σ1 H1 { s' with heap := h3 } := J.landed nb fl3.1 (up.trans up3) os ag
    obtain ⟨o3, v3, he3, hz3, hd3⟩ := fl3.there
    have nfr : a ∉ frs (X.env :: X.outer) := fun hm => by
      obtain ⟨_, o', e', hnf⟩ := fl3.2.2.1.mem hm
      rw [he3] at e'; cases e'
      exact hnf _ hd3
    have nL : a ≠ X.env.locals := fun z => nfr (List.mem_filterMap.mpr ⟨X.env, List.mem_cons_self, hfm.trans (congrArg some z.symm)⟩)
    have nF : a ∉ X.fs := fun hm => by
      obtain ⟨e, he, q⟩ := List.mem_filterMap.mp hm
      exact nfr (List.mem_filterMap.mpr ⟨e, List.mem_cons_of_mem _ he, q⟩)
    have nG : G.get? a = none := fl3.2.1
    have nI : sI.heap.get? a = none := by
      cases q : sI.heap.get? a with
      | none => rfl
      | some o =>
        have z := nb a o q (by rw [hst]; exact nfr)
        rw [nG] at z; cases z
    have n0 : X.ex = [] → X.s_0.heap.get? a = none := fun hx => by
      cases q : X.s_0.heap.get? a with
      | none => rfl
      | some o =>
        obtain ⟨o', z⟩ := J.base.there a o q (by rw [hx]; exact fun z => nomatch z)
        rw [nI] at z; cases z
    have np' : ∀ p ∈ X.pn ++ pins, p.1 ≠ a := fun p hp z => by
      have q := (J.pin p hp).1
      rw [z, nI] at q; cases q
    have S3 := J3.suite he3 hd3 na nL nF
    refine wpAny_handleBy_cons (codeAny_handlers_test ?_) (by intro q; cases q)
    have LT : PySem.W.Looks (model X.prog X.w) h3 (typeOf (.ref a)) cls := fun A Q E s k q => wpAny_typeOf_ref (k _ _ he3) (hz3.1.symm ▸ q)
    have LM := PySem.W.exm_one (M := model X.prog X.w) (J3.kIn) LT hb1
    have asks : ∀ {Q : Value → Shared → Prop} {E : Value → Shared → Prop}, Q c { s' with heap := h3 } → wpAny (model X.prog X.w) (X.A.mark (some (.ref a))) (eval (.Name x np) X.env) Q E { s' with heap := h3 } := fun {Q E} q => by
      obtain ⟨hg, hdbg, hm | ⟨hm, hv, hnn⟩⟩ := hcn
      · exact ld_glob (X := X.suite a ((a, o3) :: (X.pn ++ pins))) S3 hg hm q hdbg
      · exact ld_blt (X := X.suite a ((a, o3) :: (X.pn ++ pins))) S3 hg hm hv q hnn hdbg
    refine asks (LM.here ?_)
    cases b with
    | true =>
      refine codeAny_handlers_suite_as (HandSPX.lands_againZ fl3 fun h4 fl4 up4 => ?_)
      have J4 : Inv X pins σ1 H1 { s' with heap := h4 } := J.landed nb fl4.1 ((up.trans up3).trans up4) os ag
      obtain ⟨o4, v4, he4, hz4, hd4⟩ := fl4.there
      have S4 := J4.suite he4 hd4 na nL nF
      refine store_ok (X := X.suite a ((a, o4) :: (X.pn ++ pins))) (v := .ref a) S4 hND hi (.inl hln) rfl (fun s5 S5 => ?_) (.inr hln)
      refine wpAny_mono ((hsu a o4 cls d (X.pn ++ pins)).run [] s5 _ H1 _ S5 (hyes rfl a na (by rw [J.len]; exact (List.getElem?_eq_some_iff.mp hi).1))) (fun f s6 hsp => ?_) (fun _ _ z => False.elim z)
      cases f with
      | next =>
        obtain ⟨σ6, H6, S6, q6⟩ := hsp
        refine gone_ok (X := X.suite a ((a, o4) :: (X.pn ++ pins))) (pins := []) S6 hND hi hln fun s7 S7 => ?_
        obtain ⟨p1, p2, _⟩ := S7.pin (a, o4) (List.mem_append_left _ List.mem_cons_self)
        have J7 : Inv X pins (σ6.set i none) H6 s7 := S7.unsuite ok
        exact ⟨σ6.set i none, upd H6 a (ExO cls a d), Inv_track J7 p2 p1 (fun v z => by rw [hd4] at z; cases z) nL (n0 hex) np' (trk_ok p1 hz4 hd4), q6⟩
      | brk => obtain ⟨_, _, _, z⟩ := hsp; exact z.elim
      | cont => obtain ⟨_, _, _, z⟩ := hsp; exact z.elim
      | ret u => obtain ⟨_, _, _, _, _, z⟩ := hsp; exact z.elim
    | false =>
      refine wpAny_handleBy_nil ?_
      obtain ⟨k1, k2, k3, oe, vs, T, oT, ts', he, hz, hd, h1, hr⟩ := id fl3
      unfold PySem.passOn
      refine wpAny_bind (wpAny_field he hd h1 ?_)
      rw [if_neg (by simp)]
      have fin : wpAny (model X.prog X.w) X.A (setFlight (.ref a) X.env.frame) (fun _ s4 => wpAny (model X.prog X.w) X.A (throw (.ref a) : Sem Flow) (SP X pins De) X.xe s4) X.xe { s' with heap := h3 } := by
        rw [hfm]
        exact HandSPX.setFlight_upZ fl3 fun h4 hh4 up4 => wpAny_throw (tk _ _ ⟨a, G, sI, pins, σ1, H1, cls, d, rfl, J, nb, (up.trans up3).trans up4, .inr (.inr (by rw [hst]; exact hh4)), na, os, ag, hno rfl⟩)
      first
        | exact wpAny_bind (wpAny_pure (wpAny_bind fin))
        | exact wpAny_bind fin
  · cases f with
    | next => obtain ⟨σ2, H2, J2, q⟩ := hsp; exact wpAny_execs_nil ⟨σ2, H2, J2.ofTry ok, q⟩
    | brk => obtain ⟨σ2, H2, J2, q⟩ := hsp; exact ⟨σ2, H2, J2.ofTry ok, q⟩
    | cont => obtain ⟨σ2, H2, J2, q⟩ := hsp; exact ⟨σ2, H2, J2.ofTry ok, q⟩
    | ret u => obtain ⟨v, σ2, H2, J2, r, q⟩ := hsp; exact ⟨v, σ2, H2, J2.ofTry ok, r, q⟩
end
end Hm
set_option Elab.async false
set_option linter.all false
set_option maxRecDepth 100000
set_option maxHeartbeats 2000000
namespace Hm
open PySem L2 PySem.Spec PyProof.Rows

/-! ### try: .. except x as n: m = n, where x takes each error of ours -/
def mTry (i j : Nat) (b : MS) : MS := fun ρ E => b ρ { E with ex := fun ρ' x => E.nx (((ρ'.set i .un).set j (.dat (.exc x.c x.fs))).set i .un) }
@[simp] theorem mTry_eq (i j : Nat) (b : MS) (ρ : Rho) (E : DEnds) : mTry i j b ρ E = b ρ { E with ex := fun ρ' x => E.nx (((ρ'.set i .un).set j (.dat (.exc x.c x.fs))).set i .un) } := Eq.trans rfl rfl
section
variable {f : FrC} {X : Cx} {W : WX} {ca cb cc : Nat} {a b c : Expr} {es : List Expr} {ma mb mc : ME} {mas : MA} {pos : Pos} {ms : MS}
theorem Rel.setUn {B : Addr → Prop} {σ : L2.St} {H : Hp} {ρ : Rho} {n i : Nat} {o : Option V} (R : Rel f B σ H ρ n) : Rel f B (σ.set i o) H (ρ.set i .un) n :=
  ⟨R.ok, by rw [List.length_set, List.length_set, R.len], fun j x o' h1 h2 => by
    rcases set_cases h1 with ⟨e1, e2, _⟩ | ⟨e1, h1⟩
    · subst e2; trivial
    · rcases set_cases h2 with ⟨e3, _⟩ | ⟨_, h2⟩
      · exact absurd e3 e1
      · exact R.sl j x o' h1 h2, fun a b p x y ne h1 o1 h2 o2 s1 => by
    rcases set_cases h1 with ⟨e1, e2, _⟩ | ⟨e1, h1⟩
    · subst e2; cases o1
    · rcases set_cases h2 with ⟨e3, e4, _⟩ | ⟨e3, h2⟩
      · subst e4; cases o2
      · rw [List.getElem?_set_ne e1] at s1
        rw [List.getElem?_set_ne e3]
        exact R.inj a b p x y ne h1 o1 h2 o2 s1⟩
theorem cs_try {i j : Nat} {x n m : Str} {CH : Addr} {np p1 p2 p3 pos' : Pos} {body : List Stmt} {ct : Str → Option Addr} {K : PySem.W.Frag} (hK : f.g.K = X.K) (hct : f.g.ct = ct) (hKK : X.K = K)
    (hall : ∀ c C, ct c = some C → PySem.W.exmOne K (.ref C) (.ref CH) = some true)
    (hex : X.ex = []) (hst : X.stack = X.env :: X.outer) (hfm : X.env.frame = some X.env.locals) (hND : X.N.Nodup) (hi : X.N[i]? = some n) (hj : X.N[j]? = some m) (hln : X.env.kindOf n = some .local) (hlm : X.env.kindOf m = some .local) (hg : Gl X x) (gH : X.mg x = some (.ref CH)) (tk : Takes X W)
    (hb : ∀ (W : WX) (pn : List (Addr × Obj)) (xe : Value → Shared → Prop), Takes (X.tr pn xe) W → PassesOwn (model X.prog X.w) X.A X.env xe → CB f (X.tr pn xe) W ca body ms)
    (hij : i ≠ j := by decide) (hd1 : (n == ("__debug__" : Str)) = false := by decide) (hd2 : (n == ("__classdict__" : Str)) = false := by decide) (hdb : (x == ("__debug__" : Str)) = false := by decide)
    (hs : swapsWithSole [.Name m p1] (.Name n p2) p3.line X.env = pure false := by rfl) (hw : swappedStores [.Name m p1] (.Name n p2) X.env = pure none := by rfl) :
    CS f X W ca (.Try body [.ExceptHandler (some (.Name x np)) (some n) [.Assign [.Name m p1] (.Name n p2) p3] pos'] [] [] pos) (mTry i j ms) := by
  refine PS.imp (ps_try_keep (i := i) (ts := fun _ _ _ => tAsg (tVar i) (gName j)) hex hst hfm hND hi hln ⟨hg, hdb, .inl gH⟩ tk (tb := fun W => RS f W ca ms) hb (fun a oe cls d pn => pss_one (ps_asg (pe_var hi (.inl hln) hd1 hd2) (pg_name (i := j) hND hj (.inl hlm) (.inr hlm)) hs hw rfl))) fun De σ H h => ?_
  obtain ⟨B, n, ρ, E, R, hm, hn, hr, hbk, hcn, hx⟩ := h
  refine ⟨B, n, ρ, _, R, hm, hn, hr, hbk, hcn, fun B' y cls dd σ' H' ρ' q R' er => ?_⟩
  obtain ⟨C, e1, e2, e3⟩ := er
  subst e2
  refine ⟨true, by rw [hKK]; exact hall _ _ (hct ▸ e1), fun _ a na hlen => ?_, fun z => nomatch z⟩
  refine ⟨.ref a, by rw [List.getElem?_set_self hlen], ?_⟩
  have nB : ¬ B' a := fun z => R'.ok.dom a z na
  have gw : Gw H' (upd H' a (ExO (.ref C) a dd)) := Gw.new na
  refine hn B' _ _ _ q ((Rel.set (d := .exc y.c y.fs) (Rel.setUn (i := i) (o := some (.ref a)) (R'.kp gw.kp (gw.src R'.ok.src))) ?_).setUn)
  rcases e3 with ⟨rfl, e4⟩ | ⟨d, kvs, rfl, e4, e5, e6, e7⟩
  · rw [e4]; exact .exc0 e1 upd_same nB
  · exact .exc1 e1 upd_same nB (gw _ _ e4) e5 (e6.move fun b o h nb => ⟨gw _ _ h, nb⟩) e7

/-! ### isinstance of a kept error -/
def dIsx (s : Str → Bool) : D → DK → Prop
  | .exc c [], Q => Q (.bl (s c))
  | _, _ => False
@[simp] theorem dIsx_eq {s : Str → Bool} {c : Str} {Q : DK} : dIsx s (.exc c []) Q = Q (.bl (s c)) := Eq.trans rfl rfl
/-- isinstance(e, c), e an error that is held -/
def rIsx (K : PySem.W.Frag) (cv : Value) : List V → Hp → VK → Prop := fun xs H Q => ∃ (a C : Addr) (c : V) (b : Bool), xs = [.ref a, c] ∧ H a = some (ExO (.ref C) a none) ∧ ExcC K C ∧ (∀ u, RelV c u → u = cv) ∧ PySem.W.kitOne K (.ref C) cv = some b ∧ Q (.bl b) H
theorem call_isx {cv : Value} : CallR X (.builtin "isinstance") (rIsx X.K cv) := by
  intro pins s σ H xs us Q I r h
  obtain ⟨a, C, c, b, rfl, ha, hC, hcv, e, q⟩ := h
  cases r with
  | cons rx rr =>
    cases rr with
    | cons rt rr =>
      cases rr
      cases rx
      have ec := hcv _ rt
      subst ec
      obtain ⟨⟨oe, vs, hget, hz, hv⟩, _⟩ := I.hok a _ ha
      have J : PySem.W.InstAt s.heap a oe C none := by
        obtain ⟨oc, od, oda, osl⟩ := oe
        obtain ⟨h1, h2⟩ := hz
        dsimp only at h1 h2 hv
        subst h1 h2 hv
        exact ⟨hget, rfl, rfl, trivial⟩
      exact PySem.W.kia_one (PySem.W.handS_kitx_exc hC.hg hC.hk hC.hs hC.hd hC.ha hC.hn hC.ht hC.hm) I.kIn J e (fun z => nomatch z) fun tk => ⟨.bl b, H, I.kept (t' := tk) fun _ _ z => z, rfl, q⟩
/-- isinstance(e, x), x a class of the program's -/
theorem ce_isx {x : Str} {cv : Value} {p p2 : Pos} {ct : Str → Option Addr} {K : PySem.W.Frag} {s : Str → Bool} (hct : f.g.ct = ct) (hKK : X.K = K) (hall : ∀ c C, ct c = some C → ExcC K C ∧ PySem.W.kitOne K (.ref C) cv = some (s c)) (hr : ∃ C, cv = .ref C)
    (hg : Gl X "isinstance") (hm : X.mg "isinstance" = none) (hg2 : Gl X x) (hm2 : X.mg x = some cv) (ha : CE f X W ca a ma)
    (hdb : (x == ("__debug__" : Str)) = false := by decide) (he : starEach [a, .Name x p2] X.env = (false, eval a X.env) :: starEach [.Name x p2] X.env := by rfl) (he2 : starEach [.Name x p2] X.env = (false, eval (.Name x p2) X.env) :: starEach [] X.env := by rfl)
    (hpl : (backTo pos (starEach [.Name x p2] X.env)).any (·.1) = false := by rfl) : CE f X W ca (.Call (.Name "isinstance" p) [a, .Name x p2] [] pos) (mUn (dIsx s) ma) := by
  obtain ⟨C0, rfl⟩ := hr
  refine PE.imp (pe_callB (call_isx (cv := .ref C0)) hg hm (by decide +kernel) (pa_cons ha (pa_cons (pe_glob hg2 hm2 (show RelV (.ref C0) (.ref C0) from rfl) hdb) pa_nil he2) he) (by decide) (by decide) he hpl) fun σ H Q h => ?_
  obtain ⟨B, n, ρ, Q0, W0, R, hm, hq, hw⟩ := h
  refine rd_i (m := n) R hm (fun y v H1 h1 e1 R1 r1 => ?_) hw
  cases r1 with
  | exc0 e1' h2 n2 =>
    obtain ⟨h3, h4⟩ := hall _ _ (hct ▸ e1')
    subst hKK
    exact ⟨_, _, _, _, rfl, h2, h3, (fun u r => r), h4, hq _ _ H1 h1 e1 R1.ok.src (.bl _)⟩
  | exc1 e1' h2 n2 h3 n3 r3 q3 =>
    cases r3 with
    | nil => exact absurd rfl q3
    | cons _ _ => exact h1.elim
  | _ => exact h1.elim
/-- isinstance(e, x), x a type of the language's -/
theorem ce_isxB {x : Str} {T : String} {p p2 : Pos} {ct : Str → Option Addr} {K : PySem.W.Frag} {s : Str → Bool} (hct : f.g.ct = ct) (hKK : X.K = K) (hall : ∀ c C, ct c = some C → ExcC K C ∧ PySem.W.kitOne K (.ref C) (.type T) = some (s c))
    (hg : Gl X "isinstance") (hm : X.mg "isinstance" = none) (hg2 : Gl X x) (hm2 : X.mg x = none) (hv2 : bootBuiltins x = some (.type T)) (ha : CE f X W ca a ma)
    (hn : x ≠ "__name__" := by decide) (hdb : (x == ("__debug__" : Str)) = false := by decide) (he : starEach [a, .Name x p2] X.env = (false, eval a X.env) :: starEach [.Name x p2] X.env := by rfl) (he2 : starEach [.Name x p2] X.env = (false, eval (.Name x p2) X.env) :: starEach [] X.env := by rfl)
    (hpl : (backTo pos (starEach [.Name x p2] X.env)).any (·.1) = false := by rfl) : CE f X W ca (.Call (.Name "isinstance" p) [a, .Name x p2] [] pos) (mUn (dIsx s) ma) := by
  refine PE.imp (pe_callB (call_isx (cv := .type T)) hg hm (by decide +kernel) (pa_cons ha (pa_cons (pe_bltn hg2 hm2 hv2 (show RelV (.ty T) (.type T) from rfl) hn hdb) pa_nil he2) he) (by decide) (by decide) he hpl) fun σ H Q h => ?_
  obtain ⟨B, n, ρ, Q0, W0, R, hm, hq, hw⟩ := h
  refine rd_i (m := n) R hm (fun y v H1 h1 e1 R1 r1 => ?_) hw
  cases r1 with
  | exc0 e1' h2 n2 =>
    obtain ⟨h3, h4⟩ := hall _ _ (hct ▸ e1')
    subst hKK
    exact ⟨_, _, _, _, rfl, h2, h3, (fun u r => r), h4, hq _ _ H1 h1 e1 R1.ok.src (.bl _)⟩
  | exc1 e1' h2 n2 h3 n3 r3 q3 =>
    cases r3 with
    | nil => exact absurd rfl q3
    | cons _ _ => exact h1.elim
  | _ => exact h1.elim
/-- the table of a class: which of the errors are its -/
theorem kit_own {K : PySem.W.Frag} {E C : Addr} {b : Bool} (hd : PySem.W.hasDictIn K C = true) (ht : PySem.W.typeIn K (.ref C) = some (.type "type")) (self : PySem.W.subIn K (.ref C) (.ref C) = some true) (h : PySem.W.subIn K (.ref E) (.ref C) = some b) : PySem.W.kitOne K (.ref E) (.ref C) = some b := by
  obtain ⟨cd, hc, _⟩ := PySem.W.any_some hd
  unfold PySem.W.kitOne
  by_cases e : ((Value.ref E) == (Value.ref C)) = true
  · rw [if_pos e]
    have e' : E = C := Value.ref.inj (beq_iff_eq.mp e)
    subst e'
    exact self.symm.trans h
  · rw [if_neg e]
    show (if ((PySem.W.clsIn K C).isSome && PySem.W.typeIn K (.ref C) == some (.type "type")) = true then PySem.W.subIn K (.ref E) (.ref C) else none) = some b
    rw [if_pos (by rw [hc, ht]; rfl)]
    exact h
theorem kit_type {K : PySem.W.Frag} {E : Addr} {T : String} {b : Bool} (hk : PySem.W.kitMeta T = true) (h : PySem.W.subIn K (.ref E) (.type T) = some b) : PySem.W.kitOne K (.ref E) (.type T) = some b := by
  unfold PySem.W.kitOne
  rw [if_neg (by simp)]
  show (if PySem.W.kitMeta T = true then PySem.W.subIn K (.ref E) (.type T) else none) = some b
  rw [if_pos hk]
  exact h
end
end Hm
set_option Elab.async false
set_option linter.all false
set_option maxRecDepth 100000
set_option maxHeartbeats 2000000
namespace Hm
open PySem L2 PySem.Spec PyProof.Rows

/-! ### dicts of one's own: keys ints and texts -/
def asK : D → (Key → Prop) → Prop
  | .int i, Q => Q (.inl i)
  | .str s, Q => Q (.inr s)
  | _, _ => False
@[simp] theorem asK_int {i : Int} {Q : Key → Prop} : asK (.int i) Q = Q (.inl i) := Eq.trans rfl rfl
@[simp] theorem asK_str {s : Str} {Q : Key → Prop} : asK (.str s) Q = Q (.inr s) := Eq.trans rfl rfl
def valD (kvs : List (Key × D)) (k : Key) : Option D := (kvs.find? fun kv => decide (kv.1 = k)).map (·.2)
def putD (kvs : List (Key × D)) (k : Key) (v : D) : List (Key × D) :=
  if (kvs.any fun kv => decide (kv.1 = k)) = true then kvs.map (fun kv => if kv.1 = k then (kv.1, v) else kv) else kvs ++ [(k, v)]
def mergeD (kvs more : List (Key × D)) : List (Key × D) := more.foldl (fun acc kv => putD acc kv.1 kv.2) kvs
section
variable {g : Gc} {B : Addr → Prop} {H : Hp}
theorem RepsK.length : ∀ {vs : List (Key × V)} {ds : List (Key × D)}, RepsK g B H vs ds → vs.length = ds.length
  | _, _, .nil => rfl
  | _, _, .cons _ t => congrArg (· + 1) (RepsK.length t)
theorem RepsK.val {k : Key} : ∀ {vs : List (Key × V)} {ds : List (Key × D)}, RepsK g B H vs ds → (valV vs k = none ∧ valD ds k = none) ∨ ∃ v d, valV vs k = some v ∧ valD ds k = some d ∧ Rep g B H v d
  | _, _, .nil => .inl ⟨rfl, rfl⟩
  | _, _, .cons (k := k') (v := v) (d := d) r t => by
    by_cases e : k' = k
    · exact .inr ⟨v, d, valV_pos e, by simp [valD, List.find?_cons, e], r⟩
    · rw [valV_neg (show ¬ (k', v).1 = k from e)]
      have e2 : ∀ r : List (Key × D), valD ((k', d) :: r) k = valD r k := fun r => by simp [valD, List.find?_cons, e]
      rw [e2]
      exact RepsK.val t
theorem RepsK.any {k : Key} : ∀ {vs : List (Key × V)} {ds : List (Key × D)}, RepsK g B H vs ds → (vs.any fun kv => decide (kv.1 = k)) = (ds.any fun kv => decide (kv.1 = k))
  | _, _, .nil => rfl
  | _, _, .cons r t => by rw [List.any_cons, List.any_cons, RepsK.any t]
theorem RepsK.app : ∀ {vs us : List (Key × V)} {ds es : List (Key × D)}, RepsK g B H vs ds → RepsK g B H us es → RepsK g B H (vs ++ us) (ds ++ es)
  | _, _, _, _, .nil, s => s
  | _, _, _, _, .cons r t, s => .cons r (RepsK.app t s)
theorem RepsK.repl {k : Key} {v : V} {d : D} (q : Rep g B H v d) : ∀ {vs : List (Key × V)} {ds : List (Key × D)}, RepsK g B H vs ds → RepsK g B H (vs.map fun kv => if kv.1 = k then (kv.1, v) else kv) (ds.map fun kv => if kv.1 = k then (kv.1, d) else kv)
  | _, _, .nil => .nil
  | _, _, .cons (k := k') r t => by
    rw [List.map_cons, List.map_cons]
    by_cases e : k' = k
    · rw [if_pos e, if_pos e]; exact .cons q (RepsK.repl q t)
    · rw [if_neg e, if_neg e]; exact .cons r (RepsK.repl q t)
theorem RepsK.put {k : Key} {v : V} {d : D} {vs : List (Key × V)} {ds : List (Key × D)} (r : RepsK g B H vs ds) (q : Rep g B H v d) : RepsK g B H (putK vs k v) (putD ds k d) := by
  unfold putK putD
  rw [r.any]
  split
  · exact r.repl q
  · exact r.app (.cons q .nil)
theorem RepsK.merge : ∀ {us vs : List (Key × V)} {es ds : List (Key × D)}, RepsK g B H us es → RepsK g B H vs ds → RepsK g B H (mergeK vs us) (mergeD ds es)
  | _, _, _, _, .nil, s => s
  | _, vs, _, ds, .cons (k := k) (v := v) (vs := us) (d := d) (ds := es) r t, s => show RepsK g B H (mergeK (putK vs k v) us) (mergeD (putD ds k d) es) from RepsK.merge t (s.put r)
theorem Rep.key {v : V} {d : D} {Q : Key → Prop} (r : Rep g B H v d) (h : asK d Q) : ∃ k, v = kV k ∧ Q k := by
  cases r with
  | int i => exact ⟨.inl i, rfl, h⟩
  | str s => exact ⟨.inr s, rfl, h⟩
  | _ => exact h.elim
end
section
variable {f : FrC} {B : Addr → Prop} {σ : L2.St} {H : Hp} {ρ : Rho} {n i : Nat} {p : Addr}
/-- a new object, kept to oneself -/
theorem Rel.hide {o : HO} (R : Rel f B σ H ρ n) (hp : H p = none) : Rel f (fun a => B a ∨ a = p) σ (L2.upd H p o) ρ n := by
  have gw : Gw H (L2.upd H p o) := Gw.new hp
  have av : ∀ a u, H a = some u → ¬ B a → L2.upd H p o a = some u ∧ ¬ (B a ∨ a = p) := fun a u h nb => ⟨gw a u h, fun z => z.elim nb (ne_of_none h hp)⟩
  have h0 := R.ok.h0 hp
  have R1 := R.kp gw.kp (gw.src R.ok.src)
  refine ⟨⟨R.ok.s0, R.ok.d0, fun a h => .inl (R.ok.b0 a h), fun a h => ?_, fun a h => ?_, R1.ok.keep, R1.ok.src⟩, R.len, fun j x o' h2 h3 => ?_, R.inj⟩
  · rcases h with h | rfl
    · exact R.ok.ow a h
    · exact .inr h0
  · rcases h with h | rfl
    · exact R1.ok.dom a h
    · rw [upd_same]; exact fun z => nomatch z
  · have q := R.sl j x o' h2 h3
    cases x with
    | un => trivial
    | dat d =>
      obtain ⟨v, e1, r⟩ := q
      exact ⟨v, e1, r.move av⟩
    | own ds =>
      obtain ⟨p', vs, e1, b, h0, hp', r⟩ := q
      exact ⟨p', vs, e1, .inl b, h0, gw _ _ hp', r.move av⟩
    | ownd ds =>
      obtain ⟨p', vs, e1, b, h0, hp', r⟩ := q
      exact ⟨p', vs, e1, .inl b, h0, gw _ _ hp', r.move av⟩
/-- nobody's slot holds what is not tracked -/
theorem Rel.noSlot (R : Rel f B σ H ρ n) (hp : H p = none) : ∀ (j : Nat) x, ρ[j]? = some x → x.isOwn = true → σ[j]? ≠ some (some (.ref p)) := fun j x h1 h2 h3 => by
  have q := R.sl j x _ h1 h3
  cases x with
  | un => cases h2
  | dat d => cases h2
  | own ds =>
    obtain ⟨p', vs, e1, b, h0, hp', r⟩ := q
    cases e1
    rw [hp] at hp'; cases hp'
  | ownd ds =>
    obtain ⟨p', vs, e1, b, h0, hp', r⟩ := q
    cases e1
    rw [hp] at hp'; cases hp'
/-- a slot gets an own dict that stands already -/
theorem Rel.setOwnD {vs : List (Key × V)} {ds : List (Key × D)} (R : Rel f B σ H ρ n) (hB : B p) (h0 : f.H0 p = none) (old : ∀ (j : Nat) x, ρ[j]? = some x → x.isOwn = true → σ[j]? ≠ some (some (.ref p))) (hp : H p = some (.dK vs)) (r : RepsK f.g B H vs ds) :
    Rel f B (σ.set i (some (.ref p))) H (ρ.set i (.ownd ds)) n := by
  refine ⟨R.ok, by rw [List.length_set, List.length_set, R.len], fun j x o h2 h3 => ?_, fun a b q x y ne h2 o2 h3 o3 s2 => ?_⟩
  · rcases set_cases h2 with ⟨e1, e2, _⟩ | ⟨e1, h2⟩
    · rcases set_cases h3 with ⟨_, e4, _⟩ | ⟨e3, _⟩
      · subst e2; subst e4
        exact ⟨p, vs, rfl, hB, h0, hp, r⟩
      · exact absurd e1 e3
    · rcases set_cases h3 with ⟨e3, _⟩ | ⟨_, h3⟩
      · exact absurd e3 e1
      · exact R.sl j x o h2 h3
  · rcases set_cases h2 with ⟨e1, e2, l1⟩ | ⟨e1, h2⟩
    · subst e1
      rw [List.getElem?_set_self (by rw [R.len]; exact l1)] at s2
      cases s2
      rcases set_cases h3 with ⟨e3, _⟩ | ⟨e3, h3⟩
      · exact absurd e3 ne
      · rw [List.getElem?_set_ne e3]
        exact old b y h3 o3
    · rw [List.getElem?_set_ne e1] at s2
      rcases set_cases h3 with ⟨e3, e4, l3⟩ | ⟨e3, h3⟩
      · subst e3
        rw [List.getElem?_set_self (by rw [R.len]; exact l3)]
        intro z
        cases z
        exact old a x h2 o2 s2
      · rw [List.getElem?_set_ne e3]
        exact R.inj a b q x y ne h2 o2 h3 o3 s2
theorem Rel.ownAtD {ds : List (Key × D)} (R : Rel f B σ H ρ n) (e : ρ[i]? = some (.ownd ds)) : ∃ p vs, σ[i]? = some (some (.ref p)) ∧ B p ∧ f.H0 p = none ∧ H p = some (.dK vs) ∧ RepsK f.g B H vs ds := by
  have hl : i < σ.length := by rw [R.len]; exact (List.getElem?_eq_some_iff.mp e).1
  obtain ⟨p, vs, e1, r⟩ := R.sl i _ _ e (List.getElem?_eq_getElem hl)
  exact ⟨p, vs, by rw [List.getElem?_eq_getElem hl, e1], r⟩
/-- an own dict is written anew -/
theorem Rel.putOwnD {ds es : List (Key × D)} {us : List (Key × V)} (R : Rel f B σ H ρ n) (hi : ρ[i]? = some (.ownd ds)) (hs : σ[i]? = some (some (.ref p))) (hB : B p) (h0 : f.H0 p = none) (r : RepsK f.g B H us es) :
    Rel f B σ (L2.upd H p (.dK us)) (ρ.set i (.ownd es)) n := by
  refine ⟨R.ok.upd hB h0, by rw [List.length_set, R.len], fun j x o h2 h3 => ?_, fun a b q x y ne h2 o2 h3 o3 s2 => ?_⟩
  · rcases set_cases h2 with ⟨e1, e2, _⟩ | ⟨e1, h2⟩
    · subst e1; subst e2
      rw [hs] at h3; cases h3
      exact ⟨p, us, rfl, hB, h0, upd_same, r.upd hB⟩
    · have q := R.sl j x o h2 h3
      cases x with
      | un => trivial
      | dat d =>
        obtain ⟨v, e1, r⟩ := q
        exact ⟨v, e1, r.upd hB⟩
      | own ds' =>
        obtain ⟨p', vs, e2, b, h0', hp', r⟩ := q
        have ne : p' ≠ p := fun z => R.inj i j p _ _ e1 hi rfl h2 rfl hs (by rw [h3, e2, z])
        exact ⟨p', vs, e2, b, h0', by rw [upd_ne ne]; exact hp', r.upd hB⟩
      | ownd ds' =>
        obtain ⟨p', vs, e2, b, h0', hp', r⟩ := q
        have ne : p' ≠ p := fun z => R.inj i j p _ _ e1 hi rfl h2 rfl hs (by rw [h3, e2, z])
        exact ⟨p', vs, e2, b, h0', by rw [upd_ne ne]; exact hp', r.upd hB⟩
  · rcases set_cases h2 with ⟨e1, e2, l1⟩ | ⟨e1, h2⟩
    · rcases set_cases h3 with ⟨e3, _⟩ | ⟨e3, h3⟩
      · exact absurd (e1.symm.trans e3) ne
      · subst e1
        exact R.inj i b q _ y ne hi rfl h3 o3 s2
    · rcases set_cases h3 with ⟨e3, e4, l3⟩ | ⟨e3, h3⟩
      · subst e3
        exact R.inj a i q x _ ne h2 o2 hi rfl s2
      · exact R.inj a b q x y ne h2 o2 h3 o3 s2
end
/-! readings -/
/-- the pairs of a display -/
def mPairs : List (ME × ME) → Rho → (List (Key × D) → Prop) → XKD → Prop
  | [], _, Q, _ => Q []
  | (k, v) :: r, ρ, Q, W => k ρ (fun x => v ρ (fun y => mPairs r ρ (fun ps => asK x fun q => Q ((q, y) :: ps)) W) W) W
@[simp] theorem mPairs_nil (ρ : Rho) (Q : List (Key × D) → Prop) (W : XKD) : mPairs [] ρ Q W = Q [] := Eq.trans rfl rfl
@[simp] theorem mPairs_cons (k v : ME) (r : List (ME × ME)) (ρ : Rho) (Q : List (Key × D) → Prop) (W : XKD) : mPairs ((k, v) :: r) ρ Q W = (k ρ (fun x => v ρ (fun y => mPairs r ρ (fun ps => asK x fun q => Q ((q, y) :: ps)) W) W) W) := Eq.trans rfl rfl
def RP (f : FrC) (W : WX) (c : Nat) (m : List (ME × ME)) : L2.St → Hp → (List (V × V) → Hp → Prop) → Prop := fun σ H Q => ∃ (B : Addr → Prop) (n : Nat) (ρ : Rho) (Q0 : List (Key × D) → Prop) (W0 : XKD), Rel f B σ H ρ (n + c) ∧ mPairs m ρ Q0 W0 ∧
  (∀ ds vs H', Q0 ds → Kp f.g H H' → SrcOk f.g H' n → RepsK f.g B H' vs ds → Q (vs.map fun kv => (kV kv.1, kv.2)) H') ∧ (∀ x cls dd H', W0 x → Kp f.g H H' → SrcOk f.g H' n → ErrAt f.g B H' cls dd x → W cls dd σ H')
section
variable {f : FrC} {X : Cx} {W : WX} {ca cb cc : Nat} {a b c : Expr} {es : List Expr} {ma mb mc : ME} {mas : MA} {pos : Pos} {ms : MS}
def CPs (f : FrC) (X : Cx) (W : WX) (c : Nat) (pos : Pos) (ks : List (Option Expr)) (vs : List Expr) (m : List (ME × ME)) : Prop := ∃ trs, PPs X pos ks vs trs ∧ ∀ σ H Q, RP f W c m σ H Q → tPairs trs σ H Q
theorem cp_nil : CPs f X W 0 pos [] [] [] := ⟨[], pps_nil, fun σ H Q h => by
  obtain ⟨B, n, ρ, Q0, W0, R, hm, hq, hw⟩ := h
  exact hq [] [] H hm (Kp.refl H) R.ok.src .nil⟩
theorem cp_cons {ks : List (Option Expr)} {vs : List Expr} {mps : List (ME × ME)} (hk : CE f X W ca a ma) (hv : CE f X W cb b mb) (hr : CPs f X W cc pos ks vs mps) : CPs f X W (ca + (cb + cc)) pos (some a :: ks) (b :: vs) ((ma, mb) :: mps) := by
  obtain ⟨trs, h1, h2⟩ := hr
  refine ⟨(RD f W ca ma, RD f W cb mb) :: trs, pps_cons hk hv h1, fun σ H Q h => ?_⟩
  obtain ⟨B, n, ρ, Q0, W0, R, hm, hq, hw⟩ := h
  refine rd_i (m := n + (cb + cc)) (R.mono (by omega)) hm (fun x v H1 h1' e1 R1 r1 => ?_) fun x cls dd H' q e s er => hw x cls dd H' q e (s.mono (by omega)) er
  refine rd_i (m := n + cc) (R1.mono (by omega)) h1' (fun y u H2 h2' e2 R2 r2 => ?_) fun x cls dd H' q e s er => hw x cls dd H' q (e1.trans e) (s.mono (by omega)) er
  refine h2 _ _ _ ⟨B, n, ρ, _, W0, R2, h2', fun ds vs H3 q3 e3 s3 r3 => ?_, fun x cls dd H' q e s er => hw x cls dd H' q ((e1.trans e2).trans e) s er⟩
  obtain ⟨k, ek, q4⟩ := ((r1.kp R1.ok e2).kp R2.ok e3).key q3
  have := hq _ ((k, u) :: vs) H3 q4 ((e1.trans e2).trans e3) s3 (.cons (r2.kp R2.ok e3) r3)
  rw [List.map_cons] at this
  rw [ek]
  exact this
def mAsgD (i : Nat) (m : List (ME × ME)) : MS := fun ρ E => mPairs m ρ (fun ds => ds.length ≤ 15 ∧ E.nx (ρ.set i (.ownd (mergeD [] ds)))) (E.ex ρ)
@[simp] theorem mAsgD_eq (i : Nat) (m : List (ME × ME)) (ρ : Rho) (E : DEnds) : mAsgD i m ρ E = mPairs m ρ (fun ds => ds.length ≤ 15 ∧ E.nx (ρ.set i (.ownd (mergeD [] ds)))) (E.ex ρ) := Eq.trans rfl rfl
/-- x = {..}, to be changed -/
theorem cs_asgD {i : Nat} {x : Str} {p : Pos} {dpos : Pos} {ks : List (Option Expr)} {vs : List Expr} {m : List (ME × ME)} (hN : X.N.Nodup) (he : CPs f X W ca dpos ks vs m) (hall : ks.all (·.isSome) = true := by rfl) (hlen : ks.length = vs.length := by rfl) (hne : ks ≠ [] := by intro z; cases z) (h15 : ks.length ≤ 15 := by decide)
    (hi : X.N[i]? = some x := by rfl) (hx : Loc X.env.scope x := by first | exact Or.inl rfl | exact Or.inr rfl) (hf : X.fn x = true ∨ X.env.scope.names.lookup x = some .local := by first | exact .inl rfl | exact .inr rfl | assumption)
    (hs : swapsWithSole [.Name x p] (.Dict ks vs dpos) pos.line X.env = pure false := by rfl) (hw : swappedStores [.Name x p] (.Dict ks vs dpos) X.env = pure none := by rfl) : CS f X W ca (.Assign [.Name x p] (.Dict ks vs dpos) pos) (mAsgD i m) := by
  obtain ⟨trs, h1, h2⟩ := he
  refine PS.imp (ps_asg (pe_disp h1 hall hlen hne h15) (pg_name (i := i) hN hi hx hf) hs hw rfl) fun De σ H h => ?_
  obtain ⟨B, n, ρ, E, R, hm, hn, hr, hb, hc, hx⟩ := h
  intro p hp
  have R1 : Rel f (fun a => B a ∨ a = p) σ (upd H p (.dK [])) ρ (n + ca) := R.hide hp
  have h0 := R.ok.h0 hp
  have ns := R.ok.nS h0
  refine h2 _ _ _ ⟨_, n, ρ, _, _, R1, hm, fun ds vs H' q e s r => ?_, fun y cls dd H' q e s er => hx _ y cls dd σ H' ρ q (R1.kp e s) er⟩
  have hp' : H' p = some (.dK []) := e p _ ns upd_same
  have R2 := R1.kp e s
  refine ⟨hp', vs, rfl, by rw [r.length]; exact q.1, ?_⟩
  have hB : (fun a => B a ∨ a = p) p := .inr rfl
  have R3 : Rel f (fun a => B a ∨ a = p) σ (upd H' p (.dK (mergeK [] vs))) ρ n := by
    refine ⟨R2.ok.upd hB h0, R2.len, fun j x o h2 h3 => ?_, R2.inj⟩
    have q := R2.sl j x o h2 h3
    cases x with
    | un => trivial
    | dat d =>
      obtain ⟨v, e1, r⟩ := q
      exact ⟨v, e1, r.upd hB⟩
    | own ds' =>
      obtain ⟨p', vs, e2, b, h0', hp', r⟩ := q
      have ne : p' ≠ p := fun z => R.noSlot hp j _ h2 rfl (by rw [h3, e2, z])
      exact ⟨p', vs, e2, b, h0', by rw [upd_ne ne]; exact hp', r.upd hB⟩
    | ownd ds' =>
      obtain ⟨p', vs, e2, b, h0', hp', r⟩ := q
      have ne : p' ≠ p := fun z => R.noSlot hp j _ h2 rfl (by rw [h3, e2, z])
      exact ⟨p', vs, e2, b, h0', by rw [upd_ne ne]; exact hp', r.upd hB⟩
  exact hn _ _ _ _ q.2 (R3.setOwnD hB h0 (R.noSlot hp) upd_same ((RepsK.merge r .nil).upd hB))
def ownd? : Option Sl → (List (Key × D) → Prop) → Prop
  | some (.ownd ds), Q => Q ds
  | _, _ => False
@[simp] theorem ownd?_eq (ds : List (Key × D)) (Q : List (Key × D) → Prop) : ownd? (some (.ownd ds)) Q = Q ds := Eq.trans rfl rfl
theorem ownd?_is {o : Option Sl} {Q : List (Key × D) → Prop} (h : ownd? o Q) : ∃ ds, o = some (.ownd ds) ∧ Q ds := by
  unfold ownd? at h
  split at h
  · exact ⟨_, rfl, h⟩
  · exact h.elim
/-- x[k] = v, x an own dict -/
def mDput (i : Nat) (k v : ME) : MS := fun ρ E => ownd? ρ[i]? fun ds => v ρ (fun y => k ρ (fun x => ds.length < sizeLine ∧ asK x fun q => E.nx (ρ.set i (.ownd (putD ds q y)))) (E.ex ρ)) (E.ex ρ)
@[simp] theorem mDput_eq (i : Nat) (k v : ME) (ρ : Rho) (E : DEnds) : mDput i k v ρ E = (ownd? ρ[i]? fun ds => v ρ (fun y => k ρ (fun x => ds.length < sizeLine ∧ asK x fun q => E.nx (ρ.set i (.ownd (putD ds q y)))) (E.ex ρ)) (E.ex ρ)) := Eq.trans rfl rfl
theorem cs_dput {i : Nat} {x : Str} {px pos' : Pos} (hu : X.A.units + 64 < cLine) (hk : CE f X W ca a ma) (hv : CE f X W cb b mb) (hN : X.N[i]? = some x := by rfl) (hvi : Vis X.env.scope x := by first | exact Or.inl rfl | exact Or.inr (Or.inl rfl) | exact Or.inr (Or.inr rfl)) (hd : (x == ("__debug__" : Str)) = false := by decide) (hcd : (x == ("__classdict__" : Str)) = false := by decide)
    (hs : swapsWith b (some (.Subscript (.Name x px) a pos')) pos.line X.env = pure false := by rfl) : CS f X W (cb + ca) (.Assign [.Subscript (.Name x px) a pos'] b pos) (mDput i ma mb) :=
  PS.imp (ps_dput (by omega) (pe_var hN hvi hd hcd) hk hv hs) fun De σ H h => by
    obtain ⟨B, n, ρ, E, R, hm, hn, hr, hb, hc, hx⟩ := h
    obtain ⟨ds, eo, hm⟩ := ownd?_is hm
    obtain ⟨p, vs, es, hB, h0, hp, r⟩ := R.ownAtD eo
    refine rd_i (m := n + ca) (R.mono (by omega)) hm (fun y u H1 h1 e1 R1 r1 => ?_) fun x cls dd H' q e s er => hx B x cls dd σ H' ρ q (R.kp e (s.mono (by omega))) er
    refine ⟨.ref p, es, ?_⟩
    refine rd_i (m := n) R1 h1 (fun z w H2 h2 e2 R2 r2 => ?_) fun x cls dd H' q e s er => hx B x cls dd σ H' ρ q (R1.kp e s) er
    obtain ⟨k, ek, q⟩ := r2.key h2.2
    have hp2 : H2 p = some (.dK vs) := e2 _ _ (R.ok.nS h0) (e1 _ _ (R.ok.nS h0) hp)
    have rr := (r.kp R.ok e1).kp R1.ok e2
    exact ⟨p, _, rfl, by rw [ek]; exact DPut.k hp2 (by rw [rr.length]; exact h2.1), hn B σ _ _ q (R2.putOwnD eo es hB h0 (rr.put (r1.kp R1.ok e2)))⟩
/-- x[k], x an own dict -/
def mDget (i : Nat) (k : ME) : ME := fun ρ Q W => ownd? ρ[i]? fun ds => k ρ (fun x => asK x fun q => ∃ d, valD ds q = some d ∧ Q d) W
@[simp] theorem mDget_eq (i : Nat) (k : ME) (ρ : Rho) (Q : DK) (W : XKD) : mDget i k ρ Q W = (ownd? ρ[i]? fun ds => k ρ (fun x => asK x fun q => ∃ d, valD ds q = some d ∧ Q d) W) := Eq.trans rfl rfl
theorem ce_dget {i : Nat} {x : Str} {px : Pos} (hu : X.A.units + 64 < cLine) (hk : CE f X W ca a ma) (hN : X.N[i]? = some x := by rfl) (hvi : Vis X.env.scope x := by first | exact Or.inl rfl | exact Or.inr (Or.inl rfl) | exact Or.inr (Or.inr rfl)) (hd : (x == ("__debug__" : Str)) = false := by decide) (hcd : (x == ("__classdict__" : Str)) = false := by decide)
    (hs : NoSl a := by intro _ _; rfl) : CE f X W ca (.Subscript (.Name x px) a pos) (mDget i ma) :=
  PE.imp (pe_dget (by omega) (pe_var hN hvi hd hcd) hk hs) fun σ H Q h => by
    obtain ⟨B, n, ρ, Q0, W0, R, hm, hq, hw⟩ := h
    obtain ⟨ds, eo, hm⟩ := ownd?_is hm
    obtain ⟨p, vs, es, hB, h0, hp, r⟩ := R.ownAtD eo
    refine ⟨.ref p, es, ?_⟩
    refine rd_i (m := n) R hm (fun z w H2 h2 e2 R2 r2 => ?_) hw
    obtain ⟨k, ek, d, q1, q2⟩ := r2.key h2
    have hp2 : H2 p = some (.dK vs) := e2 _ _ (R.ok.nS h0) hp
    have rr := r.kp R.ok e2
    rcases rr.val (k := k) with ⟨_, z⟩ | ⟨v, d', z1, z2, z3⟩
    · rw [z] at q1; cases q1
    · rw [z2] at q1; cases q1
      exact ⟨p, v, rfl, by rw [ek, ← z1]; exact DGet.k hp2, hq _ _ H2 q2 e2 R2.ok.src z3⟩
@[simp] theorem valD_nil (k : Key) : valD [] k = none := Eq.trans rfl rfl
@[simp] theorem valD_cons (k k' : Key) (d : D) (r : List (Key × D)) : valD ((k', d) :: r) k = if k' = k then some d else valD r k := by
  unfold valD
  by_cases e : k' = k <;> simp [List.find?_cons, e]
theorem putD_new {k : Key} {d : D} : ∀ {ds : List (Key × D)}, (ds.any fun kv => decide (kv.1 = k)) = false → putD ds k d = ds ++ [(k, d)] := fun {ds} h => by
  unfold putD; rw [if_neg (by rw [h]; exact Bool.false_ne_true)]
/-- x = {}, to be changed -/
def mAsgD0 (i : Nat) : MS := fun ρ E => E.nx (ρ.set i (.ownd []))
@[simp] theorem mAsgD0_eq (i : Nat) (ρ : Rho) (E : DEnds) : mAsgD0 i ρ E = E.nx (ρ.set i (.ownd [])) := Eq.trans rfl rfl
theorem cs_asgD0 {i : Nat} {x : Str} {p : Pos} {dpos : Pos} (hN : X.N.Nodup) (hi : X.N[i]? = some x := by rfl) (hx : Loc X.env.scope x := by first | exact Or.inl rfl | exact Or.inr rfl) (hf : X.fn x = true ∨ X.env.scope.names.lookup x = some .local := by first | exact .inl rfl | exact .inr rfl | assumption)
    (hs : swapsWithSole [.Name x p] (.Dict [] [] dpos) pos.line X.env = pure false := by rfl) (hw : swappedStores [.Name x p] (.Dict [] [] dpos) X.env = pure none := by rfl) : CS f X W 0 (.Assign [.Name x p] (.Dict [] [] dpos) pos) (mAsgD0 i) :=
  PS.imp (ps_asg pe_dnewK (pg_name (i := i) hN hi hx hf) hs hw rfl) fun De σ H h => by
    obtain ⟨B, n, ρ, E, R, hm, hn, hr, hb, hc, hx⟩ := h
    intro p hp
    exact hn _ _ _ _ hm ((R.hide hp).setOwnD (.inr rfl) (R.ok.h0 hp) (R.noSlot hp) upd_same .nil)
/-- {} as a datum -/
theorem ce_dnew : CE f X W 0 (.Dict [] [] pos) (mC (.dct [])) := PE.imp pe_dnewK fun σ H Q h => by
  obtain ⟨B, n, ρ, Q0, W0, R, hm, hq, hw⟩ := h
  intro p hp
  have gw : Gw H (upd H p (.dK [])) := Gw.new hp
  exact hq _ _ _ hm gw.kp (gw.src R.ok.src) (.dct upd_same (nB R.ok.dom hp) .nil)
end
end Hm
set_option Elab.async false
set_option linter.all false
set_option maxRecDepth 100000
set_option maxHeartbeats 2000000
namespace Hm
open PySem L2 PySem.Spec PyProof.Rows

/-! ### list.count, list.index of flat values -/
section
variable {X : Cx}
def rCntV (K : PySem.W.Frag) : V → List V → Hp → VK → Prop := fun x xs H Q => ∃ (a : Addr) (ys : List V) (y : V), x = V.ref a ∧ xs = [y] ∧ SqL K H a ys ∧ flatV y = true ∧ ys.all flatV = true ∧ Q (.int ((ys.countP fun z => eqV z y : Nat) : Int)) H
theorem cntU {y : V} : ∀ {ys : List V} {us : List Value}, Vals ys us → ys.all flatV = true → us.countP (eqU y) = ys.countP fun z => eqV z y
  | _, _, .nil, _ => rfl
  | _, _, .cons r t, h => by
    have h' := Bool.and_eq_true_iff.mp (show (_ && _) = true from h)
    rw [List.countP_cons, List.countP_cons, cntU t h'.2, eqU_of r h'.1]
theorem mt_cntV : MtR X "list.count" (rCntV X.K) := by
  intro pins s σ H x xs v us Q I rx rxs h
  obtain ⟨a, ys, y, rfl, rfl, hs, fy, fys, q⟩ := h
  cases rx
  cases rxs with
  | cons ry rt =>
    rename_i uy ut
    cases rt
    obtain ⟨its, rv, ⟨⟨cls, dd, data, sl⟩, n, ho, hc, hdn, hd⟩, hlen⟩ := I.list hs
    simp only at hc hd
    subst hc hd
    refine call_meets PySem.F.slot_list_count ⟨_, ho, rfl⟩ PySem.F.entry_list_count (PySem.F.args_list_count_2 _ _) (SeqAt.list_countAt a its.toArray n dd sl uy (eqU y)) ⟨ho, fun u' hu' => mem_eqAt ry fy rv fys u' (by simpa using hu'), ?_⟩
    refine ⟨.int ((ys.countP fun z => eqV z y : Nat) : Int), H, I.tok _, ⟨s.toks, ?_⟩, q⟩
    show Value.int ((its.toArray.toList.countP (eqU y) : Nat) : Int) s.toks = Value.int ((ys.countP fun z => eqV z y : Nat) : Int) s.toks
    rw [show its.toArray.toList = its from rfl, cntU rv fys]
end
/-- a list's method with one argument -/
def mMetL (op : List D → D → DK → Prop) (a b : ME) : ME := fun ρ Q W => a ρ (fun x => asL x fun xs => b ρ (fun y => op xs y Q) W) W
@[simp] theorem mMetL_eq (op : List D → D → DK → Prop) (a b : ME) (ρ : Rho) (Q : DK) (W : XKD) : mMetL op a b ρ Q W = (a ρ (fun x => asL x fun xs => b ρ (fun y => op xs y Q) W) W) := Eq.trans rfl rfl
def dCount (xs : List D) (y : D) (Q : DK) : Prop := y.flat = true ∧ xs.all D.flat = true ∧ Q (.int ((xs.countP fun z => D.eqF z y : Nat) : Int))
/-- the place of the first that is equal -/
def idxD (xs : List D) (y : D) : Option Nat := xs.findIdx? fun z => D.eqF z y
def dIndex (xs : List D) (y : D) (Q : DK) : Prop := y.flat = true ∧ xs.all D.flat = true ∧ ∃ j : Nat, idxD xs y = some j ∧ Q (.int (j : Nat))
@[simp] theorem dCount_eq {xs : List D} {y : D} {Q : DK} : dCount xs y Q = (y.flat = true ∧ xs.all D.flat = true ∧ Q (.int ((xs.countP fun z => D.eqF z y : Nat) : Int))) := Eq.trans rfl rfl
@[simp] theorem dIndex_eq {xs : List D} {y : D} {Q : DK} : dIndex xs y Q = (y.flat = true ∧ xs.all D.flat = true ∧ ∃ j : Nat, idxD xs y = some j ∧ Q (.int (j : Nat))) := Eq.trans rfl rfl
section
variable {g : Gc} {B : Addr → Prop} {H : Hp}
theorem Reps.flats : ∀ {vs : List V} {ds : List D}, Reps g B H vs ds → ds.all D.flat = true → vs.all L2.flatV = true
  | _, _, .nil, _ => rfl
  | _, _, .cons r t, h => by
    have h' := Bool.and_eq_true_iff.mp (show (_ && _) = true from h)
    rw [List.all_cons, r.flatV h'.1, Reps.flats t h'.2]; rfl
theorem Reps.cnt {u : V} {e : D} (q : Rep g B H u e) (he : e.flat = true) : ∀ {vs : List V} {ds : List D}, Reps g B H vs ds → ds.all D.flat = true → (vs.countP fun z => eqV z u) = ds.countP fun z => D.eqF z e
  | _, _, .nil, _ => rfl
  | _, _, .cons r t, h => by
    have h' := Bool.and_eq_true_iff.mp (show (_ && _) = true from h)
    rw [List.countP_cons, List.countP_cons, Reps.cnt q he t h'.2, r.eqF q h'.1 he]
theorem Reps.idx {u : V} {e : D} (q : Rep g B H u e) (he : e.flat = true) {vs : List V} {ds : List D} {j : Nat} (r : Reps g B H vs ds) (h : ds.all D.flat = true) (hj : idxD ds e = some j) :
    ∃ z, vs[j]? = some z ∧ eqV z u = true ∧ ∀ (m : Nat) (z' : V), m < j → vs[m]? = some z' → eqV z' u = false := by
  unfold idxD at hj
  obtain ⟨hl, hy, hn⟩ := List.findIdx?_eq_some_iff_getElem.mp hj
  have at_ : ∀ (m : Nat) (hm : m < ds.length), ∃ z, vs[m]? = some z ∧ eqV z u = D.eqF ds[m] e := fun m hm => by
    obtain ⟨z, z1, z2⟩ := r.get (List.getElem?_eq_getElem hm)
    exact ⟨z, z1, z2.eqF q (List.all_eq_true.mp h _ (List.getElem_mem hm)) he⟩
  obtain ⟨z, z1, z2⟩ := at_ j hl
  refine ⟨z, z1, z2.trans hy, fun m z' hm hz' => ?_⟩
  obtain ⟨z'', y1, y2⟩ := at_ m (by omega)
  rw [y1] at hz'
  cases hz'
  rw [y2]
  exact Bool.eq_false_iff.mpr (hn m hm)
end
section
variable {f : FrC} {X : Cx} {W : WX} {ca cb cc : Nat} {a b c : Expr} {es : List Expr} {ma mb mc : ME} {mas : MA} {pos : Pos} {ms : MS}
theorem ce_lcount {apos cpos : Pos} (hK : f.g.K = X.K) (ho : CE f X W ca a ma) (he : CE f X W cb b mb) (hbase : attributeBase a "count" X.env (eval a X.env) = eval a X.env := by rfl)
    (hfew : ((backTo cpos (starEach [b] X.env)).all (fun x => !x.1) && (backToKw cpos (keywordEach [] X.env)).all (fun x => x.1.isSome)
      && decide ([b].length + ([] : List Keyword).length + (if ([] : List Keyword).isEmpty then 0 else 1) < 30)) = true := by rfl)
    (hline : (apos.endLine == cpos.line) = true := by rfl) (hst : starEach [b] X.env = (false, eval b X.env) :: starEach [] X.env := by rfl) (hplain : (backTo cpos (starEach [] X.env)).any (·.1) = false := by rfl) :
    CE f X W (ca + cb) (.Call (.Attribute a "count" apos) [b] [] cpos) (mMetL dCount ma mb) :=
  PE.imp (pe_bm PySem.F.plainAttrs_list PySem.F.slot_list_count PySem.F.type_list_count mt_cntV ho (pa_cons he pa_nil hst) hbase hfew hline hst hplain) fun σ H Q h => by
    obtain ⟨B, n, ρ, Q0, W0, R, hm, hq, hw⟩ := h
    refine rd_i (m := n + cb) (R.mono (by omega)) hm (fun x v H1 h1 e1 R1 r1 => ?_) fun x cls dd H' q e s er => hw x cls dd H' q e (s.mono (by omega)) er
    cases r1 with
    | lst ha nb rs =>
      refine ⟨.inl ⟨rfl, _, .inl (.inl ha)⟩, ?_⟩
      refine rd_i (m := n) R1 h1 (fun y u H2 h2 e2 R2 r2 => ?_) fun x cls dd H' q e s er => hw x cls dd H' q (e1.trans e) s er
      have ha2 := e2 _ _ (fun z => nb (R1.ok.inB z)) ha
      have rs2 := rs.kp R1.ok e2
      refine ⟨_, _, _, rfl, rfl, .inl (.inl ha2), r2.flatV h2.1, rs2.flats h2.2.1, ?_⟩
      rw [rs2.cnt r2 h2.1 h2.2.1]
      exact hq _ _ H2 h2.2.2 (e1.trans e2) R2.ok.src (.int _)
    | _ => exact h1.elim
theorem ce_lindex {apos cpos : Pos} (hK : f.g.K = X.K) (ho : CE f X W ca a ma) (he : CE f X W cb b mb) (hbase : attributeBase a "index" X.env (eval a X.env) = eval a X.env := by rfl)
    (hfew : ((backTo cpos (starEach [b] X.env)).all (fun x => !x.1) && (backToKw cpos (keywordEach [] X.env)).all (fun x => x.1.isSome)
      && decide ([b].length + ([] : List Keyword).length + (if ([] : List Keyword).isEmpty then 0 else 1) < 30)) = true := by rfl)
    (hline : (apos.endLine == cpos.line) = true := by rfl) (hst : starEach [b] X.env = (false, eval b X.env) :: starEach [] X.env := by rfl) (hplain : (backTo cpos (starEach [] X.env)).any (·.1) = false := by rfl) :
    CE f X W (ca + cb) (.Call (.Attribute a "index" apos) [b] [] cpos) (mMetL dIndex ma mb) :=
  PE.imp (pe_bm PySem.F.plainAttrs_list PySem.F.slot_list_index PySem.F.type_list_index mt_index ho (pa_cons he pa_nil hst) hbase hfew hline hst hplain) fun σ H Q h => by
    obtain ⟨B, n, ρ, Q0, W0, R, hm, hq, hw⟩ := h
    refine rd_i (m := n + cb) (R.mono (by omega)) hm (fun x v H1 h1 e1 R1 r1 => ?_) fun x cls dd H' q e s er => hw x cls dd H' q e (s.mono (by omega)) er
    cases r1 with
    | lst ha nb rs =>
      refine ⟨.inl ⟨rfl, _, .inl (.inl ha)⟩, ?_⟩
      refine rd_i (m := n) R1 h1 (fun y u H2 h2 e2 R2 r2 => ?_) fun x cls dd H' q e s er => hw x cls dd H' q (e1.trans e) s er
      have ha2 := e2 _ _ (fun z => nb (R1.ok.inB z)) ha
      have rs2 := rs.kp R1.ok e2
      obtain ⟨g1, g2, j, g3, g4⟩ := h2
      obtain ⟨z, z1, z2, z3⟩ := rs2.idx r2 g1 g2 g3
      exact ⟨_, _, _, j, z, rfl, rfl, .inl (.inl ha2), r2.flatV g1, rs2.flats g2, z1, z2, z3, hq _ _ H2 g4 (e1.trans e2) R2.ok.src (.int _)⟩
    | _ => exact h1.elim
end
end Hm
set_option Elab.async false
set_option linter.all false
set_option maxRecDepth 100000
set_option maxHeartbeats 4000000
namespace Hm
open PySem L2 PySem.Spec PyProof.Rows
/-! printed by gen.py -/
def topS (i : Nat) : Stmt := PySem.Challenge.pw_handedtext_k14_exchange.main.body.getD i (.Pass ⟨0, 0, 0, 0⟩)
abbrev s_is_integer : Stmt := topS 9
abbrev s_is_side : Stmt := topS 10
abbrev s_check_side : Stmt := topS 11
abbrev s_check_value : Stmt := topS 12
abbrev s_threshold : Stmt := topS 13
abbrev s_figure_for : Stmt := topS 14
abbrev s_least_for : Stmt := topS 15
abbrev s_parted_in : Stmt := topS 18
abbrev s_exchange : Stmt := topS 19
abbrev s_law_source : Stmt := topS 21
abbrev s_law_draw : Stmt := topS 22
abbrev s_law_pick : Stmt := topS 23
abbrev s_law_great : Stmt := topS 24
abbrev s_law_ten : Stmt := topS 25
abbrev s_law_step : Stmt := topS 26
abbrev s_law_side : Stmt := topS 27
abbrev s_law_written : Stmt := topS 28
abbrev s_law_two : Stmt := topS 29
abbrev s_law_differs : Stmt := topS 30
abbrev s_law_word : Stmt := topS 31
abbrev s_law_doors_right : Stmt := topS 32
abbrev s_law : Stmt := topS 33
theorem sc_is_integer : FnScope ["value"] ["value"] (defScope s_is_integer) := ⟨rfl, rfl, rfl, by decide +kernel, rfl, by decide +kernel, by decide +kernel⟩
theorem sc_is_side : FnScope ["value"] ["value"] (defScope s_is_side) := ⟨rfl, rfl, rfl, by decide +kernel, rfl, by decide +kernel, by decide +kernel⟩
theorem sc_check_side : FnScope ["side"] ["side"] (defScope s_check_side) := ⟨rfl, rfl, rfl, by decide +kernel, rfl, by decide +kernel, by decide +kernel⟩
theorem sc_check_value : FnScope ["value"] ["value"] (defScope s_check_value) := ⟨rfl, rfl, rfl, by decide +kernel, rfl, by decide +kernel, by decide +kernel⟩
theorem sc_threshold : FnScope ["side", "figure", "offset", "step", "mode", "value"] ["side", "figure"] (defScope s_threshold) := ⟨rfl, rfl, rfl, by decide +kernel, rfl, by decide +kernel, by decide +kernel⟩
theorem sc_figure_for : FnScope ["side", "value", "figure"] ["side", "value"] (defScope s_figure_for) := ⟨rfl, rfl, rfl, by decide +kernel, rfl, by decide +kernel, by decide +kernel⟩
theorem sc_least_for : FnScope ["side", "value"] ["side", "value"] (defScope s_least_for) := ⟨rfl, rfl, rfl, by decide +kernel, rfl, by decide +kernel, by decide +kernel⟩
theorem sc_parted_in : FnScope ["fine", "coarse", "figure", "value", "first", "last", "goal", "start", "found"] ["fine", "coarse", "figure", "value"] (defScope s_parted_in) := ⟨rfl, rfl, rfl, by decide +kernel, rfl, by decide +kernel, by decide +kernel⟩
theorem sc_exchange : FnScope ["first", "second", "value", "fine", "coarse", "figure", "number", "found"] ["first", "second", "value"] (defScope s_exchange) := ⟨rfl, rfl, rfl, by decide +kernel, rfl, by decide +kernel, by decide +kernel⟩
theorem sc_law_source : FnScope ["_law_script", "_law_cells", "_law_k"] ["_law_script"] (defScope s_law_source) := ⟨rfl, rfl, rfl, by decide +kernel, rfl, by decide +kernel, by decide +kernel⟩
theorem sc_law_draw : FnScope ["_law_source_here", "_law_limit", "_law_cells", "_law_turn", "_law_place", "_law_cell", "_law_number"] ["_law_source_here", "_law_limit"] (defScope s_law_draw) := ⟨rfl, rfl, rfl, by decide +kernel, rfl, by decide +kernel, by decide +kernel⟩
theorem sc_law_pick : FnScope ["_law_source_here", "_law_values"] ["_law_source_here", "_law_values"] (defScope s_law_pick) := ⟨rfl, rfl, rfl, by decide +kernel, rfl, by decide +kernel, by decide +kernel⟩
theorem sc_law_great : FnScope ["_law_source_here", "_law_limit", "_law_total", "_law_k"] ["_law_source_here", "_law_limit"] (defScope s_law_great) := ⟨rfl, rfl, rfl, by decide +kernel, rfl, by decide +kernel, by decide +kernel⟩
theorem sc_law_ten : FnScope ["_law_many", "_law_found", "_law_k"] ["_law_many"] (defScope s_law_ten) := ⟨rfl, rfl, rfl, by decide +kernel, rfl, by decide +kernel, by decide +kernel⟩
theorem sc_law_step : FnScope ["_law_source_here", "_law_most", "_law_joint"] ["_law_source_here", "_law_most"] (defScope s_law_step) := ⟨rfl, rfl, rfl, by decide +kernel, rfl, by decide +kernel, by decide +kernel⟩
theorem sc_law_side : FnScope ["_law_source_here", "_law_most", "_law_steps", "_law_offset"] ["_law_source_here", "_law_most"] (defScope s_law_side) := ⟨rfl, rfl, rfl, by decide +kernel, rfl, by decide +kernel, by decide +kernel⟩
theorem sc_law_written : FnScope ["_law_side_here", "_law_value", "_law_offset", "_law_steps", "_law_mode", "_law_figure", "_law_rest", "_law_more"] ["_law_side_here", "_law_value"] (defScope s_law_written) := ⟨rfl, rfl, rfl, by decide +kernel, rfl, by decide +kernel, by decide +kernel⟩
theorem sc_law_two : FnScope ["_law_source_here", "_law_one", "_law_other", "_law_way", "_law_mode"] ["_law_source_here"] (defScope s_law_two) := ⟨rfl, rfl, rfl, by decide +kernel, rfl, by decide +kernel, by decide +kernel⟩
theorem sc_law_differs : FnScope ["_law_one", "_law_other", "_law_value"] ["_law_one", "_law_other", "_law_value"] (defScope s_law_differs) := ⟨rfl, rfl, rfl, by decide +kernel, rfl, by decide +kernel, by decide +kernel⟩
theorem sc_law_word : FnScope ["_law_one", "_law_other", "_law_value", "_law_caught", "e", "_law_found"] ["_law_one", "_law_other", "_law_value"] (defScope s_law_word) := ⟨rfl, rfl, rfl, by decide +kernel, rfl, by decide +kernel, by decide +kernel⟩
theorem sc_law_doors_right : FnScope ["_law_good", "_law_bad", "_law_value"] ["_law_good"] (defScope s_law_doors_right) := ⟨rfl, rfl, rfl, by decide +kernel, rfl, by decide +kernel, by decide +kernel⟩
theorem sc_law : FnScope ["_law_script", "_law_source_here", "_law_turn", "_law_one", "_law_other", "_law_period", "_law_marks", "_law_value", "_law_later", "_law_mark", "_law_due"] ["_law_script"] (defScope s_law) := ⟨rfl, rfl, rfl, by decide +kernel, rfl, by decide +kernel, by decide +kernel⟩
def k_GREATEST_OFFSET : D := .int 10000000000000000000000000000000000000000
def k_GREATEST_STEP : D := .int 1000000000000000000000000000000
def k_MODES : D := .tup [.str "down", .str "up", .str "half_down", .str "half_up", .str "half_even"]
def k_TRIED : D := .int 8
structure Txt (K : PySem.W.Frag) (mg : Str → Option Value) where
  a_is_integer : Addr
  d_is_integer : FuncData
  f_is_integer : Df K mg "is_integer" s_is_integer ["value"] a_is_integer d_is_integer
  a_is_side : Addr
  d_is_side : FuncData
  f_is_side : Df K mg "is_side" s_is_side ["value"] a_is_side d_is_side
  a_check_side : Addr
  d_check_side : FuncData
  f_check_side : Df K mg "check_side" s_check_side ["side"] a_check_side d_check_side
  a_check_value : Addr
  d_check_value : FuncData
  f_check_value : Df K mg "check_value" s_check_value ["value"] a_check_value d_check_value
  a_threshold : Addr
  d_threshold : FuncData
  f_threshold : Df K mg "threshold" s_threshold ["side", "figure"] a_threshold d_threshold
  a_figure_for : Addr
  d_figure_for : FuncData
  f_figure_for : Df K mg "figure_for" s_figure_for ["side", "value"] a_figure_for d_figure_for
  a_least_for : Addr
  d_least_for : FuncData
  f_least_for : Df K mg "least_for" s_least_for ["side", "value"] a_least_for d_least_for
  a_parted_in : Addr
  d_parted_in : FuncData
  f_parted_in : Df K mg "parted_in" s_parted_in ["fine", "coarse", "figure", "value"] a_parted_in d_parted_in
  a_exchange : Addr
  d_exchange : FuncData
  f_exchange : Df K mg "exchange" s_exchange ["first", "second", "value"] a_exchange d_exchange
  a_law_source : Addr
  d_law_source : FuncData
  f_law_source : Df K mg "_law_source" s_law_source ["_law_script"] a_law_source d_law_source
  a_law_draw : Addr
  d_law_draw : FuncData
  f_law_draw : Df K mg "_law_draw" s_law_draw ["_law_source_here", "_law_limit"] a_law_draw d_law_draw
  a_law_pick : Addr
  d_law_pick : FuncData
  f_law_pick : Df K mg "_law_pick" s_law_pick ["_law_source_here", "_law_values"] a_law_pick d_law_pick
  a_law_great : Addr
  d_law_great : FuncData
  f_law_great : Df K mg "_law_great" s_law_great ["_law_source_here", "_law_limit"] a_law_great d_law_great
  a_law_ten : Addr
  d_law_ten : FuncData
  f_law_ten : Df K mg "_law_ten" s_law_ten ["_law_many"] a_law_ten d_law_ten
  a_law_step : Addr
  d_law_step : FuncData
  f_law_step : Df K mg "_law_step" s_law_step ["_law_source_here", "_law_most"] a_law_step d_law_step
  a_law_side : Addr
  d_law_side : FuncData
  f_law_side : Df K mg "_law_side" s_law_side ["_law_source_here", "_law_most"] a_law_side d_law_side
  a_law_written : Addr
  d_law_written : FuncData
  f_law_written : Df K mg "_law_written" s_law_written ["_law_side_here", "_law_value"] a_law_written d_law_written
  a_law_two : Addr
  d_law_two : FuncData
  f_law_two : Df K mg "_law_two" s_law_two ["_law_source_here"] a_law_two d_law_two
  a_law_differs : Addr
  d_law_differs : FuncData
  f_law_differs : Df K mg "_law_differs" s_law_differs ["_law_one", "_law_other", "_law_value"] a_law_differs d_law_differs
  a_law_word : Addr
  d_law_word : FuncData
  f_law_word : Df K mg "_law_word" s_law_word ["_law_one", "_law_other", "_law_value"] a_law_word d_law_word
  a_law_doors_right : Addr
  d_law_doors_right : FuncData
  f_law_doors_right : Df K mg "_law_doors_right" s_law_doors_right ["_law_good"] a_law_doors_right d_law_doors_right
  a_law : Addr
  d_law : FuncData
  f_law : Df K mg "law" s_law ["_law_script"] a_law d_law
  c_InvalidSide : Addr
  c_InvalidValue : Addr
  c_HandedError : Addr
  c_InvalidSides : Addr
  ct : Str → Option Addr
  o_HandedError : mg "HandedError" = some (.ref c_HandedError)
  o_InvalidSide : mg "InvalidSide" = some (.ref c_InvalidSide)
  o_InvalidSides : mg "InvalidSides" = some (.ref c_InvalidSides)
  o_InvalidValue : mg "InvalidValue" = some (.ref c_InvalidValue)
  i_InvalidSide : ∀ c C, ct c = some C → ExcC K C ∧ PySem.W.kitOne K (.ref C) (.ref c_InvalidSide) = some ((fun (c : Str) => decide (c = "InvalidSide")) c)
  i_InvalidSides : ∀ c C, ct c = some C → ExcC K C ∧ PySem.W.kitOne K (.ref C) (.ref c_InvalidSides) = some ((fun (_ : Str) => false) c)
  i_InvalidValue : ∀ c C, ct c = some C → ExcC K C ∧ PySem.W.kitOne K (.ref C) (.ref c_InvalidValue) = some ((fun (c : Str) => decide (c = "InvalidValue")) c)
  i_ValueError : ∀ c C, ct c = some C → ExcC K C ∧ PySem.W.kitOne K (.ref C) (.type "ValueError") = some ((fun (_ : Str) => true) c)
  h_HandedError : ∀ c C, ct c = some C → PySem.W.exmOne K (.ref C) (.ref c_HandedError) = some true
  e_InvalidSide : ErrC K mg ct "InvalidSide" c_InvalidSide
  e_InvalidValue : ErrC K mg ct "InvalidValue" c_InvalidValue
  y_GREATEST_OFFSET : ∃ t, mg "GREATEST_OFFSET" = some (.int 10000000000000000000000000000000000000000 t)
  y_GREATEST_STEP : ∃ t, mg "GREATEST_STEP" = some (.int 1000000000000000000000000000000 t)
  y_MODES : ∃ a, mg "MODES" = some (.ref a) ∧ WrT K a [.str "down", .str "up", .str "half_down", .str "half_up", .str "half_even"]
  y_TRIED : ∃ t, mg "TRIED" = some (.int 8 t)
  n_ValueError : mg "ValueError" = none
  n_abs : mg "abs" = none
  n_bool : mg "bool" = none
  n_int : mg "int" = none
  n_isinstance : mg "isinstance" = none
  n_len : mg "len" = none
  n_max : mg "max" = none
  n_min : mg "min" = none
  n_range : mg "range" = none
  n_str : mg "str" = none
  n_tuple : mg "tuple" = none
section
variable {P : Program} {w : World} {K : PySem.W.Frag} {mg : Str → Option Value} {base : Heap}
theorem Txt.x_GREATEST_OFFSET (T : Txt K mg) {f : FrC} {X : Cx} {W : WX} {pos : Pos} (hg : Gl X "GREATEST_OFFSET") (hK : f.g.K = K := by assumption) (hm : X.mg = mg := by rfl) : CE f X W 0 (.Name "GREATEST_OFFSET" pos) (mC k_GREATEST_OFFSET) := by
  obtain ⟨t, e⟩ := T.y_GREATEST_OFFSET
  exact ce_glob hg (by rw [hm]; exact e) (show RelV (.int 10000000000000000000000000000000000000000) _ from ⟨t, rfl⟩) (fun _ _ => .int _)
theorem Txt.x_GREATEST_STEP (T : Txt K mg) {f : FrC} {X : Cx} {W : WX} {pos : Pos} (hg : Gl X "GREATEST_STEP") (hK : f.g.K = K := by assumption) (hm : X.mg = mg := by rfl) : CE f X W 0 (.Name "GREATEST_STEP" pos) (mC k_GREATEST_STEP) := by
  obtain ⟨t, e⟩ := T.y_GREATEST_STEP
  exact ce_glob hg (by rw [hm]; exact e) (show RelV (.int 1000000000000000000000000000000) _ from ⟨t, rfl⟩) (fun _ _ => .int _)
theorem Txt.x_MODES (T : Txt K mg) {f : FrC} {X : Cx} {W : WX} {pos : Pos} (hg : Gl X "MODES") (hK : f.g.K = K := by assumption) (hm : X.mg = mg := by rfl) : CE f X W 0 (.Name "MODES" pos) (mC k_MODES) := by
  obtain ⟨a, e, h⟩ := T.y_MODES
  exact ce_glob hg (by rw [hm]; exact e) (show RelV (.ref a) _ from rfl) (fun _ _ => .wtup (by rw [hK]; exact h) (.cons (.str _) (.cons (.str _) (.cons (.str _) (.cons (.str _) (.cons (.str _) .nil))))))
theorem Txt.x_TRIED (T : Txt K mg) {f : FrC} {X : Cx} {W : WX} {pos : Pos} (hg : Gl X "TRIED") (hK : f.g.K = K := by assumption) (hm : X.mg = mg := by rfl) : CE f X W 0 (.Name "TRIED" pos) (mC k_TRIED) := by
  obtain ⟨t, e⟩ := T.y_TRIED
  exact ce_glob hg (by rw [hm]; exact e) (show RelV (.int 8) _ from ⟨t, rfl⟩) (fun _ _ => .int _)
def m_is_integer : MF := mFun 1 1 (mRet (mAndV (mUn (dIsi "int") (mVar 0)) (mNotV (mUn (dIsi "bool") (mVar 0)))))
def m_is_side : MF := mFun 1 1 (mSeq (mIfS (mOr (mNot (mTruth (mUn (dIsi "tuple") (mVar 0)))) (mOr (mTest (mOp dNe (mBlt dLen (mCons (mVar 0) mNil)) (mC (.int 3)))) (mOr (mNot (mTruth (mCall m_is_integer (mCons (mOp dIx (mVar 0) (mC (.int 0))) mNil)))) (mNot (mTruth (mCall m_is_integer (mCons (mOp dIx (mVar 0) (mC (.int 1))) mNil))))))) (mRet (mC (.bl false))) mNext)
  (mSeq (mIfS (mOr (mTest (mOp dGt (mBlt dAbs (mCons (mOp dIx (mVar 0) (mC (.int 0))) mNil)) (mC k_GREATEST_OFFSET))) (mNot (mTest (mChain dLe dLe (mC (.int 1)) (mOp dIx (mVar 0) (mC (.int 1))) (mC k_GREATEST_STEP))))) (mRet (mC (.bl false))) mNext)
  (mRet (mAndV (mUn (dIsi "str") (mOp dIx (mVar 0) (mC (.int 2)))) (mOp dIn (mOp dIx (mVar 0) (mC (.int 2))) (mC k_MODES))))))
def m_check_side : MF := mFun 1 1 (mIfS (mNot (mTruth (mCall m_is_side (mCons (mVar 0) mNil)))) (mRaise ⟨"InvalidSide", []⟩) mNext)
def m_check_value : MF := mFun 1 1 (mIfS (mNot (mTruth (mCall m_is_integer (mCons (mVar 0) mNil)))) (mRaise ⟨"InvalidValue", []⟩) mNext)
def m_threshold : MF := mFun 2 6 (mSeq (mTo (mVar 0) (gTp [2, 3, 4]))
  (mSeq (mAsg 5 (mOp dAdd (mVar 2) (mOp dMul (mVar 3) (mVar 1))))
  (mSeq (mIfS (mTest (mOp dEq (mVar 4) (mC (.str "down")))) (mRet (mVar 5)) mNext)
  (mSeq (mIfS (mTest (mOp dEq (mVar 4) (mC (.str "up")))) (mRet (mOp dAdd (mOp dSub (mVar 5) (mVar 3)) (mC (.int 1)))) mNext)
  (mSeq (mIfS (mOr (mTest (mOp dEq (mVar 4) (mC (.str "half_up")))) (mAnd (mTest (mOp dEq (mVar 4) (mC (.str "half_even")))) (mTest (mOp dEq (mOp dMod (mVar 1) (mC (.int 2))) (mC (.int 0)))))) (mRet (mOp dSub (mVar 5) (mOp dDiv (mVar 3) (mC (.int 2))))) mNext)
  (mRet (mOp dSub (mVar 5) (mOp dDiv (mOp dSub (mVar 3) (mC (.int 1))) (mC (.int 2))))))))))
def m_figure_for : MF := mFun 2 3 (mSeq (mAsg 2 (mOp dDiv (mOp dSub (mVar 1) (mOp dIx (mVar 0) (mC (.int 0)))) (mOp dIx (mVar 0) (mC (.int 1)))))
  (mRet (mIf (mTest (mOp dGe (mVar 1) (mCall m_threshold (mCons (mVar 0) (mCons (mOp dAdd (mVar 2) (mC (.int 1))) mNil))))) (mOp dAdd (mVar 2) (mC (.int 1))) (mVar 2))))
def m_least_for : MF := mFun 2 2 (mRet (mCall m_threshold (mCons (mVar 0) (mCons (mUn dNeg (mOp dDiv (mOp dSub (mOp dIx (mVar 0) (mC (.int 0))) (mVar 1)) (mOp dIx (mVar 0) (mC (.int 1))))) mNil))))
def m_parted_in : MF := mFun 4 9 (mSeq (mPar 4 5 (mCall m_threshold (mCons (mVar 1) (mCons (mVar 2) mNil))) (mOp dSub (mCall m_threshold (mCons (mVar 1) (mCons (mOp dAdd (mVar 2) (mC (.int 1))) mNil))) (mC (.int 1))))
  (mSeq (mAsg 6 (mOp dAdd (mOp dIx (mVar 1) (mC (.int 0))) (mOp dMul (mOp dIx (mVar 1) (mC (.int 1))) (mVar 2))))
  (mSeq (mAsg 7 (mBlt dMax2 (mCons (mVar 3) (mCons (mVar 4) mNil))))
  (mSeq (mIfS (mTest (mOp dGt (mVar 7) (mVar 5))) (mRet (mC .non)) mNext)
  (mSeq (mIfS (mOr (mTest (mOp dNe (mOp dMod (mOp dSub (mVar 6) (mOp dIx (mVar 0) (mC (.int 0)))) (mOp dIx (mVar 0) (mC (.int 1)))) (mC (.int 0)))) (mTest (mOp dLt (mVar 7) (mCall m_least_for (mCons (mVar 0) (mCons (mVar 4) mNil)))))) (mRet (mVar 7)) mNext)
  (mSeq (mAsg 8 (mBlt dMax2 (mCons (mVar 7) (mCons (mCall m_least_for (mCons (mVar 0) (mCons (mOp dAdd (mVar 5) (mC (.int 1))) mNil))) mNil))))
  (mRet (mIf (mTest (mOp dLe (mVar 8) (mVar 5))) (mVar 8) (mC .non)))))))))
def m_exchange : MF := mFun 3 8 (mSeq (mDrop (mCall m_check_side (mCons (mVar 0) mNil)))
  (mSeq (mDrop (mCall m_check_side (mCons (mVar 1) mNil)))
  (mSeq (mDrop (mCall m_check_value (mCons (mVar 2) mNil)))
  (mSeq (mTo (mIf (mTest (mOp dLe (mOp dIx (mVar 0) (mC (.int 1))) (mOp dIx (mVar 1) (mC (.int 1))))) (mTup (mCons (mVar 0) (mCons (mVar 1) mNil))) (mTup (mCons (mVar 1) (mCons (mVar 0) mNil)))) (gTp [3, 4]))
  (mSeq (mAsg 5 (mCall m_figure_for (mCons (mVar 4) (mCons (mVar 2) mNil))))
  (mSeq (mForR2 (mVar 5) (mOp dAdd (mVar 5) (mC k_TRIED)) (gNm 6) (mSeq (mAsg 7 (mCall m_parted_in (mCons (mVar 3) (mCons (mVar 4) (mCons (mVar 6) (mCons (mVar 2) mNil))))))
  (mIfS (mTest (mOp dIsNot (mVar 7) (mC .non))) (mRet (mVar 7)) mNext)))
  (mRet (mC .non))))))))
def m_law_pick : MF := mFun 2 2 (mRet (mOp dIx (mVar 1) (mCall m_draw (mCons (mVar 0) (mCons (mBlt dLen (mCons (mVar 1) mNil)) mNil)))))
def m_law_great : MF := mFun 2 4 (mSeq (mAsg 2 (mC (.int 0)))
  (mSeq (mForR1 (mC (.int 5)) (gNm 3) (mAsg 2 (mOp dAdd (mOp dMul (mVar 2) (mOp dPow (mC (.int 10)) (mC (.int 9)))) (mCall m_draw (mCons (mVar 0) (mCons (mOp dPow (mC (.int 10)) (mC (.int 9))) mNil))))))
  (mRet (mOp dMod (mBlt dInt (mCons (mVar 2) mNil)) (mVar 1)))))
def m_law_ten : MF := mFun 1 3 (mSeq (mAsg 1 (mC (.int 1)))
  (mSeq (mForR1 (mVar 0) (gNm 2) (mAsg 1 (mOp dMul (mVar 1) (mC (.int 10)))))
  (mRet (mVar 1))))
def m_law_step : MF := mFun 2 3 (mSeq (mIfS (mTest (mOp dLt (mVar 1) (mC (.int 1000)))) (mRet (mOp dAdd (mC (.int 1)) (mCall m_draw (mCons (mVar 0) (mCons (mVar 1) mNil))))) mNext)
  (mSeq (mAsg 2 (mCall m_law_pick (mCons (mVar 0) (mCons (mFrz (mLst (mCons (mC (.int 1)) (mCons (mC (.int 2)) (mCons (mC (.int 6)) (mCons (mOp dPow (mC (.int 10)) (mC (.int 9))) (mCons (mC (.int 360)) (mCons (mOp dPow (mC (.int 2)) (mC (.int 40))) (mCons (mOp dAdd (mOp dPow (mC (.int 10)) (mC (.int 9))) (mC (.int 7))) (mCons (mOp dPow (mC (.int 10)) (mC (.int 15))) (mCons (mOp dPow (mC (.int 3)) (mC (.int 20))) mNil))))))))))) mNil))))
  (mRet (mBlt dMin2 (mCons (mVar 1) (mCons (mOp dMul (mVar 2) (mOp dAdd (mC (.int 1)) (mCall m_law_great (mCons (mVar 0) (mCons (mCall m_law_ten (mCons (mOp dAdd (mC (.int 1)) (mCall m_draw (mCons (mVar 0) (mCons (mC (.int 22)) mNil)))) mNil)) mNil))))) mNil))))))
def m_law_side : MF := mFun 2 4 (mSeq (mAsg 2 (mCall m_law_step (mCons (mVar 0) (mCons (mVar 1) mNil))))
  (mSeq (mAsg 3 (mOp dSub (mCall m_law_great (mCons (mVar 0) (mCons (mOp dMul (mC (.int 3)) (mVar 2)) mNil))) (mVar 2)))
  (mRet (mTup (mCons (mVar 3) (mCons (mVar 2) (mCons (mCall m_law_pick (mCons (mVar 0) (mCons (mFrz (mLst (mCons (mC (.str "down")) (mCons (mC (.str "up")) (mCons (mC (.str "half_down")) (mCons (mC (.str "half_up")) (mCons (mC (.str "half_even")) mNil))))))) mNil))) mNil)))))))
def m_law_written : MF := mFun 2 8 (mSeq (mTo (mVar 0) (gTp [2, 3, 4]))
  (mSeq (mAsg 5 (mOp dDiv (mOp dSub (mVar 1) (mVar 2)) (mVar 3)))
  (mSeq (mAsg 6 (mOp dMod (mBlt dInt (mCons (mOp dSub (mVar 1) (mVar 2)) mNil)) (mVar 3)))
  (mSeq (mAsgD 7 [((mC (.str "down")), (mC (.bl false))), ((mC (.str "up")), (mOp dGt (mVar 6) (mC (.int 0)))), ((mC (.str "half_down")), (mOp dGt (mOp dMul (mC (.int 2)) (mVar 6)) (mVar 3))), ((mC (.str "half_up")), (mOp dGe (mOp dMul (mC (.int 2)) (mVar 6)) (mVar 3)))])
  (mSeq (mDput 7 (mC (.str "half_even")) (mOrV (mOp dGt (mOp dMul (mC (.int 2)) (mVar 6)) (mVar 3)) (mAndV (mOp dEq (mOp dMul (mC (.int 2)) (mVar 6)) (mVar 3)) (mOp dEq (mOp dMod (mBlt dInt (mCons (mVar 5) mNil)) (mC (.int 2))) (mC (.int 1))))))
  (mRet (mOp dAdd (mVar 2) (mOp dMul (mVar 3) (mOp dAdd (mVar 5) (mBlt dInt (mCons (mDget 7 (mVar 4)) mNil)))))))))))
def m_law_two : MF := mFun 1 5 (mSeq (mPar 1 2 (mCall m_law_side (mCons (mVar 0) (mCons (mC (.int 12)) mNil))) (mCall m_law_side (mCons (mVar 0) (mCons (mC (.int 12)) mNil))))
  (mSeq (mAsg 3 (mCall m_draw (mCons (mVar 0) (mCons (mC (.int 4)) mNil))))
  (mSeq (mIfS (mTest (mOp dGt (mVar 3) (mC (.int 0)))) (mSeq (mAsg 4 (mCall m_law_pick (mCons (mVar 0) (mCons (mFrz (mLst (mCons (mOp dIx (mVar 1) (mC (.int 2))) (mCons (mOp dIx (mVar 1) (mC (.int 2))) (mCons (mOp dIx (mVar 2) (mC (.int 2))) mNil))))) mNil))))
  (mAsg 2 (mTup (mCons (mOp dAdd (mOp dIx (mVar 1) (mC (.int 0))) (mOp dMul (mOp dIx (mVar 1) (mC (.int 1))) (mOp dSub (mCall m_draw (mCons (mVar 0) (mCons (mC (.int 5)) mNil))) (mC (.int 2))))) (mCons (mOp dMul (mOp dIx (mVar 1) (mC (.int 1))) (mOp dAdd (mC (.int 1)) (mCall m_draw (mCons (mVar 0) (mCons (mC (.int 5)) mNil))))) (mCons (mVar 4) mNil)))))) mNext)
  (mSeq (mIfS (mTest (mOp dEq (mVar 3) (mC (.int 3)))) (mAsg 2 (mTup (mCons (mOp dAdd (mOp dIx (mVar 2) (mC (.int 0))) (mCall m_law_pick (mCons (mVar 0) (mCons (mFrz (mLst (mCons (mC (.int 0)) (mCons (mC (.int 1)) (mCons (mOp dDiv (mOp dIx (mVar 1) (mC (.int 1))) (mC (.int 2))) mNil))))) mNil)))) (mCons (mOp dIx (mVar 2) (mC (.int 1))) (mCons (mOp dIx (mVar 2) (mC (.int 2))) mNil))))) mNext)
  (mSeq (mIfS (mTest (mOp dEq (mCall m_draw (mCons (mVar 0) (mCons (mC (.int 2)) mNil))) (mC (.int 0)))) (mPar 1 2 (mVar 2) (mVar 1)) mNext)
  (mRet (mTup (mCons (mVar 1) (mCons (mVar 2) mNil)))))))))
def m_law_differs : MF := mFun 3 3 (mRet (mOp dNe (mCall m_law_written (mCons (mVar 1) (mCons (mCall m_law_written (mCons (mVar 0) (mCons (mVar 2) mNil))) mNil))) (mCall m_law_written (mCons (mVar 0) (mCons (mCall m_law_written (mCons (mVar 1) (mCons (mVar 2) mNil))) mNil)))))
def m_law_word : MF := mFun 3 6 (mSeq (mAsg 3 (mC .non))
  (mSeq (mTry 4 3 (mDrop (mCall m_exchange (mCons (mVar 0) (mCons (mVar 1) (mCons (mVar 2) mNil))))))
  (mSeq (mIfS (mTest (mOp dIs (mVar 3) (mC .non))) (mRet (mC (.str "good"))) mNext)
  (mSeq (mAsg 5 (mFrz (mLst (mCons (mUn (dIsx (fun (c : Str) => decide (c = "InvalidSide"))) (mVar 3)) (mCons (mUn (dIsx (fun (c : Str) => decide (c = "InvalidValue"))) (mVar 3)) (mCons (mUn (dIsx (fun (_ : Str) => false)) (mVar 3)) mNil))))))
  (mSeq (mIfS (mOr (mTest (mOp dNe (mMetL dCount (mVar 5) (mC (.bl true))) (mC (.int 1)))) (mNot (mTruth (mUn (dIsx (fun (_ : Str) => true)) (mVar 3))))) (mRet (mC (.str "other"))) mNext)
  (mRet (mOp dIx (mFrz (mLst (mCons (mC (.str "side")) (mCons (mC (.str "value")) (mCons (mC (.str "sides")) mNil))))) (mMetL dIndex (mVar 5) (mC (.bl true))))))))))
def m_law_doors_right : MF := mFun 1 3 (mSeq (mFor (mFrz (mLst (mCons (mC .non) (mCons (mC (.int 7)) (mCons (mTup (mCons (mC (.int 0)) (mCons (mC (.int 0)) (mCons (mC (.str "up")) mNil)))) (mCons (mTup (mCons (mC (.int 0)) (mCons (mC (.int 5)) (mCons (mC (.str "near")) mNil)))) (mCons (mFrz (mLst (mCons (mC (.int 0)) (mCons (mC (.int 5)) (mCons (mC (.str "up")) mNil))))) (mCons (mTup (mCons (mC (.bl true)) (mCons (mC (.int 5)) (mCons (mC (.str "up")) mNil)))) (mCons (mTup (mCons (mC (.int 0)) (mCons (mC (.int 5)) mNil))) (mCons (mC (.str "up")) (mCons (mFrz (mLst (mCons (mVar 0) mNil))) mNil))))))))))) (gNm 1) (mIfS (mOr (mTest (mOp dNe (mCall m_law_word (mCons (mVar 1) (mCons (mVar 0) (mCons (mC .non) mNil)))) (mC (.str "side")))) (mTest (mOp dNe (mCall m_law_word (mCons (mVar 0) (mCons (mVar 1) (mCons (mC .non) mNil)))) (mC (.str "side"))))) (mRet (mC (.bl false))) mNext))
  (mRet (mOp dEq (mFrz (mLc (mFrz (mLst (mCons (mC .non) (mCons (mC (.bl true)) (mCons (mC (.bl false)) (mCons (mC (.str "0")) (mCons (mFrz (mLst mNil)) (mCons (mTup (mCons (mC (.int 1)) mNil)) mNil)))))))) (gNm 2) mYes (mCall m_law_word (mCons (mVar 0) (mCons (mVar 0) (mCons (mVar 2) mNil)))) [2])) (mOp dMul (mFrz (mLst (mCons (mC (.str "value")) mNil))) (mC (.int 6))))))
def m_law : MS := (mSeq (mForR1 (mC (.int 60)) (gNm 2) (mSeq (mTo (mCall m_law_two (mCons (mVar 1) mNil)) (gTp [3, 4]))
  (mSeq (mAsg 5 (mOp dMul (mOp dMul (mC (.int 2)) (mOp dIx (mVar 3) (mC (.int 1)))) (mOp dIx (mVar 4) (mC (.int 1)))))
  (mSeq (mAsg 6 (mFrz (mLcR1 (mVar 5) (gNm 7) (mTruth (mCall m_law_differs (mCons (mVar 3) (mCons (mVar 4) (mCons (mVar 7) mNil))))) (mVar 7) [7])))
  (mFor (mFrz (mLst (mCons (mC (.int 0)) (mCons (mOp dSub (mVar 5) (mC (.int 1))) (mCons (mCall m_draw (mCons (mVar 1) (mCons (mVar 5) mNil))) (mCons (mCall m_draw (mCons (mVar 1) (mCons (mVar 5) mNil))) mNil)))))) (gNm 7) (mSeq (mAsg 8 (mOp dAdd (mFrz (mLc (mVar 6) (gNm 9) (mTest (mOp dGe (mVar 9) (mVar 7))) (mVar 9) [9])) (mFrz (mLc (mVar 6) (gNm 9) mYes (mOp dAdd (mVar 9) (mVar 5)) [9]))))
  (mSeq (mAsg 10 (mOp dIx (mOp dAdd (mVar 8) (mFrz (mLst (mCons (mC .non) mNil)))) (mC (.int 0))))
  (mSeq (mIfS (mOr (mTest (mOp dNe (mCall m_exchange (mCons (mVar 3) (mCons (mVar 4) (mCons (mVar 7) mNil)))) (mVar 10))) (mTest (mOp dNe (mCall m_exchange (mCons (mVar 4) (mCons (mVar 3) (mCons (mVar 7) mNil)))) (mVar 10)))) (mRet (mC (.bl false))) mNext)
  (mIfS (mAnd (mTest (mOp dNe (mVar 6) (mFrz (mLst mNil)))) (mTest (mOp dNe (mCall m_exchange (mCons (mVar 3) (mCons (mVar 4) (mCons (mOp dSub (mVar 7) (mOp dMul (mC (.int 7)) (mVar 5))) mNil)))) (mOp dSub (mVar 10) (mOp dMul (mC (.int 7)) (mVar 5)))))) (mRet (mC (.bl false))) mNext)))))))))
  (mSeq (mIfS (mTest (mOp dNe (mCall m_exchange (mCons (mTup (mCons (mC (.int 0)) (mCons (mC (.int 4)) (mCons (mC (.str "down")) mNil)))) (mCons (mTup (mCons (mC (.int 0)) (mCons (mC (.int 6)) (mCons (mC (.str "down")) mNil)))) (mCons (mC (.int 0)) mNil)))) (mC (.int 6)))) (mRet (mC (.bl false))) mNext)
  (mSeq (mIfS (mTest (mOp dIsNot (mCall m_exchange (mCons (mTup (mCons (mC (.int 0)) (mCons (mC (.int 3)) (mCons (mC (.str "half_up")) mNil)))) (mCons (mTup (mCons (mC (.int 0)) (mCons (mC (.int 9)) (mCons (mC (.str "half_up")) mNil)))) (mCons (mC (.int 0)) mNil)))) (mC .non))) (mRet (mC (.bl false))) mNext)
  (mRet (mAndV (mOp dEq (mCall m_exchange (mCons (mTup (mCons (mC (.int 0)) (mCons (mC (.int 10)) (mCons (mC (.str "half_up")) mNil)))) (mCons (mTup (mCons (mC (.int 0)) (mCons (mC (.int 100)) (mCons (mC (.str "half_up")) mNil)))) (mCons (mC (.int 0)) mNil)))) (mC (.int 45))) (mCall m_law_doors_right (mCons (mTup (mCons (mC (.int 0)) (mCons (mC (.int 5)) (mCons (mC (.str "half_even")) mNil)))) mNil)))))))
theorem ok_is_integer (T : Txt K mg) : FnD P w K mg base T.ct 1 T.a_is_integer T.d_is_integer ["value"] 0 m_is_integer :=
  FnD.cost (fn_data (k := 0) T.f_is_integer.F sc_is_integer fun cdv A outer s H E f hK hct hr =>
    (cs_one (cs_ret (ce_and (ce_isi hK (T := "int") (by decide) (by rfl) T.n_isinstance (by rfl) T.n_int (by decide +kernel) (ce_var 0)) (ce_one (ce_not (ce_isi hK (T := "bool") (by decide) (by rfl) T.n_isinstance (by rfl) T.n_bool (by decide +kernel) (ce_var 0)))))))) (by decide +kernel)
theorem ok_is_side (T : Txt K mg) : FnD P w K mg base T.ct 2 T.a_is_side T.d_is_side ["value"] 0 m_is_side :=
  FnD.cost (fn_data (k := 1) T.f_is_side.F sc_is_side fun cdv A outer s H E f hK hct hr =>
    (cs_cons (cs_if (ct_w (cw_or (ct_not (ct_truth hK (ce_isi hK (T := "tuple") (by decide) (by rfl) T.n_isinstance (by rfl) T.n_tuple (by decide +kernel) (ce_var 0)))) (cw_or (ct_cmp hK (op_neDD hr.units) od_ne (ce_blt hK call_len cd_len (by rfl) T.n_len (by decide +kernel) (ca_cons (ce_var 0) ca_nil)) ce_int) (cw_or (ct_not (ct_truth hK (ce_call (ok_is_integer T) hct hK (takes_of rfl rfl rfl rfl) (hr.mono (by decide)) (by rfl) T.f_is_integer.g T.f_is_integer.F.kp T.f_is_integer.b (ca_cons (ce_ix hK ix_seq od_ix (ce_var 0) ce_int) ca_nil)))) (cw_or1 (ct_not (ct_truth hK (ce_call (ok_is_integer T) hct hK (takes_of rfl rfl rfl rfl) (hr.mono (by decide)) (by rfl) T.f_is_integer.g T.f_is_integer.F.kp T.f_is_integer.b (ca_cons (ce_ix hK ix_seq od_ix (ce_var 0) ce_int) ca_nil))))))))) (cs_one (cs_ret ce_bl)) cs_nil)
    (cs_cons (cs_if (ct_w (cw_or (ct_cmp hK op_gt (od_cmp _) (ce_blt hK call_abs cd_abs (by rfl) T.n_abs (by decide +kernel) (ca_cons (ce_ix hK ix_seq od_ix (ce_var 0) ce_int) ca_nil)) (T.x_GREATEST_OFFSET (by rfl))) (cw_or1 (ct_not (ct_chain hK op_le (od_cmp _) op_le (od_cmp _) ce_int (ce_ix hK ix_seq od_ix (ce_var 0) ce_int) (T.x_GREATEST_STEP (by rfl))))))) (cs_one (cs_ret ce_bl)) cs_nil)
    (cs_one (cs_ret (ce_and (ce_isi hK (T := "str") (by decide) (by rfl) T.n_isinstance (by rfl) T.n_str (by decide +kernel) (ce_ix hK ix_seq od_ix (ce_var 0) ce_int)) (ce_one (ce_cmp hK op_in_seq (od_in false) (ce_ix hK ix_seq od_ix (ce_var 0) ce_int) (T.x_MODES (by rfl)))))))))) (by decide +kernel)
theorem ok_check_side (T : Txt K mg) : FnD P w K mg base T.ct 3 T.a_check_side T.d_check_side ["side"] 0 m_check_side :=
  FnD.cost (fn_data (k := 2) T.f_check_side.F sc_check_side fun cdv A outer s H E f hK hct hr =>
    (cs_one (cs_if (ct_not (ct_truth hK (ce_call (ok_is_side T) hct hK (takes_of rfl rfl rfl rfl) (hr.mono (by decide)) (by rfl) T.f_is_side.g T.f_is_side.F.kp T.f_is_side.b (ca_cons (ce_var 0) ca_nil)))) (cs_one (cs_raise0 hct rfl (takes_of rfl rfl rfl rfl) T.e_InvalidSide (by rfl))) cs_nil))) (by decide +kernel)
theorem ok_check_value (T : Txt K mg) : FnD P w K mg base T.ct 2 T.a_check_value T.d_check_value ["value"] 0 m_check_value :=
  FnD.cost (fn_data (k := 1) T.f_check_value.F sc_check_value fun cdv A outer s H E f hK hct hr =>
    (cs_one (cs_if (ct_not (ct_truth hK (ce_call (ok_is_integer T) hct hK (takes_of rfl rfl rfl rfl) (hr.mono (by decide)) (by rfl) T.f_is_integer.g T.f_is_integer.F.kp T.f_is_integer.b (ca_cons (ce_var 0) ca_nil)))) (cs_one (cs_raise0 hct rfl (takes_of rfl rfl rfl rfl) T.e_InvalidValue (by rfl))) cs_nil))) (by decide +kernel)
theorem ok_threshold (T : Txt K mg) : FnD P w K mg base T.ct 1 T.a_threshold T.d_threshold ["side", "figure"] 0 m_threshold :=
  FnD.cost (fn_data (k := 0) T.f_threshold.F sc_threshold fun cdv A outer s H E f hK hct hr =>
    (cs_cons (cs_to (ce_var 0) (pg_tup rfl (pgs_cons (pg_name (i := 2) sc_threshold.nd rfl (by first | exact Or.inl rfl | exact Or.inr rfl)) (pgs_cons (pg_name (i := 3) sc_threshold.nd rfl (by first | exact Or.inl rfl | exact Or.inr rfl)) (pgs_cons (pg_name (i := 4) sc_threshold.nd rfl (by first | exact Or.inl rfl | exact Or.inr rfl)) pgs_nil)))) (tg_tup hK rfl (tgs_cons (tgs_cons (tgs_cons tgs_nil)))))
    (cs_cons (cs_asg (i := 5) sc_threshold.nd (ce_op hK op_addD od_add (ce_var 2) (ce_op hK op_mulD od_mul (ce_var 3) (ce_var 1))))
    (cs_cons (cs_if (ct_cmp hK (op_eqDD hr.units) od_eq (ce_var 4) ce_str) (cs_one (cs_ret (ce_var 5))) cs_nil)
    (cs_cons (cs_if (ct_cmp hK (op_eqDD hr.units) od_eq (ce_var 4) ce_str) (cs_one (cs_ret (ce_op hK op_addD od_add (ce_op hK op_sub od_sub (ce_var 5) (ce_var 3)) ce_int))) cs_nil)
    (cs_cons (cs_if (ct_w (cw_or (ct_cmp hK (op_eqDD hr.units) od_eq (ce_var 4) ce_str) (cw_or1 (ct_w (cw_and (ct_cmp hK (op_eqDD hr.units) od_eq (ce_var 4) ce_str) (cw_and1 (ct_cmp hK (op_eqDD hr.units) od_eq (ce_op hK op_mod od_mod (ce_var 1) ce_int) ce_int))))))) (cs_one (cs_ret (ce_op hK op_sub od_sub (ce_var 5) (ce_op hK op_fdivW od_div (ce_var 3) ce_int)))) cs_nil)
    (cs_one (cs_ret (ce_op hK op_sub od_sub (ce_var 5) (ce_op hK op_fdivW od_div (ce_op hK op_sub od_sub (ce_var 3) ce_int) ce_int)))))))))) (by decide +kernel)
theorem ok_figure_for (T : Txt K mg) : FnD P w K mg base T.ct 2 T.a_figure_for T.d_figure_for ["side", "value"] 0 m_figure_for :=
  FnD.cost (fn_data (k := 1) T.f_figure_for.F sc_figure_for fun cdv A outer s H E f hK hct hr =>
    (cs_cons (cs_asg (i := 2) sc_figure_for.nd (ce_op hK op_fdivW od_div (ce_op hK op_sub od_sub (ce_var 1) (ce_ix hK ix_seq od_ix (ce_var 0) ce_int)) (ce_ix hK ix_seq od_ix (ce_var 0) ce_int)))
    (cs_one (cs_ret (ce_if (ct_cmp hK op_ge (od_cmp _) (ce_var 1) (ce_call (ok_threshold T) hct hK (takes_of rfl rfl rfl rfl) (hr.mono (by decide)) (by rfl) T.f_threshold.g T.f_threshold.F.kp T.f_threshold.b (ca_cons (ce_var 0) (ca_cons (ce_op hK op_addD od_add (ce_var 2) ce_int) ca_nil)))) (ce_op hK op_addD od_add (ce_var 2) ce_int) (ce_var 2)))))) (by decide +kernel)
theorem ok_least_for (T : Txt K mg) : FnD P w K mg base T.ct 2 T.a_least_for T.d_least_for ["side", "value"] 0 m_least_for :=
  FnD.cost (fn_data (k := 1) T.f_least_for.F sc_least_for fun cdv A outer s H E f hK hct hr =>
    (cs_one (cs_ret (ce_call (ok_threshold T) hct hK (takes_of rfl rfl rfl rfl) (hr.mono (by decide)) (by rfl) T.f_threshold.g T.f_threshold.F.kp T.f_threshold.b (ca_cons (ce_var 0) (ca_cons (ce_un hK un_neg ud_neg (ce_op hK op_fdivW od_div (ce_op hK op_sub od_sub (ce_ix hK ix_seq od_ix (ce_var 0) ce_int) (ce_var 1)) (ce_ix hK ix_seq od_ix (ce_var 0) ce_int))) ca_nil)))))) (by decide +kernel)
theorem ok_parted_in (T : Txt K mg) : FnD P w K mg base T.ct 3 T.a_parted_in T.d_parted_in ["fine", "coarse", "figure", "value"] 0 m_parted_in :=
  FnD.cost (fn_data (k := 2) T.f_parted_in.F sc_parted_in fun cdv A outer s H E f hK hct hr =>
    (cs_cons (cs_par (i := 4) (j := 5) rfl sc_parted_in.nd (by decide) (ce_call (ok_threshold T) hct hK (takes_of rfl rfl rfl rfl) (hr.mono (by decide)) (by rfl) T.f_threshold.g T.f_threshold.F.kp T.f_threshold.b (ca_cons (ce_var 1) (ca_cons (ce_var 2) ca_nil))) (ce_op hK op_sub od_sub (ce_call (ok_threshold T) hct hK (takes_of rfl rfl rfl rfl) (hr.mono (by decide)) (by rfl) T.f_threshold.g T.f_threshold.F.kp T.f_threshold.b (ca_cons (ce_var 1) (ca_cons (ce_op hK op_addD od_add (ce_var 2) ce_int) ca_nil))) ce_int))
    (cs_cons (cs_asg (i := 6) sc_parted_in.nd (ce_op hK op_addD od_add (ce_ix hK ix_seq od_ix (ce_var 1) ce_int) (ce_op hK op_mulD od_mul (ce_ix hK ix_seq od_ix (ce_var 1) ce_int) (ce_var 2))))
    (cs_cons (cs_asg (i := 7) sc_parted_in.nd (ce_blt hK (call_max2 rfl) cd_max2 (by rfl) T.n_max (by decide +kernel) (ca_cons (ce_var 3) (ca_cons (ce_var 4) ca_nil))))
    (cs_cons (cs_if (ct_cmp hK op_gt (od_cmp _) (ce_var 7) (ce_var 5)) (cs_one (cs_ret ce_non)) cs_nil)
    (cs_cons (cs_if (ct_w (cw_or (ct_cmp hK (op_neDD hr.units) od_ne (ce_op hK op_mod od_mod (ce_op hK op_sub od_sub (ce_var 6) (ce_ix hK ix_seq od_ix (ce_var 0) ce_int)) (ce_ix hK ix_seq od_ix (ce_var 0) ce_int)) ce_int) (cw_or1 (ct_cmp hK op_lt (od_cmp _) (ce_var 7) (ce_call (ok_least_for T) hct hK (takes_of rfl rfl rfl rfl) (hr.mono (by decide)) (by rfl) T.f_least_for.g T.f_least_for.F.kp T.f_least_for.b (ca_cons (ce_var 0) (ca_cons (ce_var 4) ca_nil))))))) (cs_one (cs_ret (ce_var 7))) cs_nil)
    (cs_cons (cs_asg (i := 8) sc_parted_in.nd (ce_blt hK (call_max2 rfl) cd_max2 (by rfl) T.n_max (by decide +kernel) (ca_cons (ce_var 7) (ca_cons (ce_call (ok_least_for T) hct hK (takes_of rfl rfl rfl rfl) (hr.mono (by decide)) (by rfl) T.f_least_for.g T.f_least_for.F.kp T.f_least_for.b (ca_cons (ce_var 0) (ca_cons (ce_op hK op_addD od_add (ce_var 5) ce_int) ca_nil))) ca_nil))))
    (cs_one (cs_ret (ce_if (ct_cmp hK op_le (od_cmp _) (ce_var 8) (ce_var 5)) (ce_var 8) ce_non)))))))))) (by decide +kernel)
theorem ok_exchange (T : Txt K mg) : FnD P w K mg base T.ct 4 T.a_exchange T.d_exchange ["first", "second", "value"] 0 m_exchange :=
  FnD.cost (fn_data (k := 3) T.f_exchange.F sc_exchange fun cdv A outer s H E f hK hct hr =>
    (cs_cons (cs_expr (ce_call (ok_check_side T) hct hK (takes_of rfl rfl rfl rfl) (hr.mono (by decide)) (by rfl) T.f_check_side.g T.f_check_side.F.kp T.f_check_side.b (ca_cons (ce_var 0) ca_nil)))
    (cs_cons (cs_expr (ce_call (ok_check_side T) hct hK (takes_of rfl rfl rfl rfl) (hr.mono (by decide)) (by rfl) T.f_check_side.g T.f_check_side.F.kp T.f_check_side.b (ca_cons (ce_var 1) ca_nil)))
    (cs_cons (cs_expr (ce_call (ok_check_value T) hct hK (takes_of rfl rfl rfl rfl) (hr.mono (by decide)) (by rfl) T.f_check_value.g T.f_check_value.F.kp T.f_check_value.b (ca_cons (ce_var 2) ca_nil)))
    (cs_cons (cs_to (ce_if (ct_cmp hK op_le (od_cmp _) (ce_ix hK ix_seq od_ix (ce_var 0) ce_int) (ce_ix hK ix_seq od_ix (ce_var 1) ce_int)) (ce_tup (ca_cons (ce_var 0) (ca_cons (ce_var 1) ca_nil))) (ce_tup (ca_cons (ce_var 1) (ca_cons (ce_var 0) ca_nil)))) (pg_tup rfl (pgs_cons (pg_name (i := 3) sc_exchange.nd rfl (by first | exact Or.inl rfl | exact Or.inr rfl)) (pgs_cons (pg_name (i := 4) sc_exchange.nd rfl (by first | exact Or.inl rfl | exact Or.inr rfl)) pgs_nil))) (tg_tup hK rfl (tgs_cons (tgs_cons tgs_nil))))
    (cs_cons (cs_asg (i := 5) sc_exchange.nd (ce_call (ok_figure_for T) hct hK (takes_of rfl rfl rfl rfl) (hr.mono (by decide)) (by rfl) T.f_figure_for.g T.f_figure_for.F.kp T.f_figure_for.b (ca_cons (ce_var 4) (ca_cons (ce_var 2) ca_nil))))
    (cs_cons (cs_range2 (passes_of rfl) rfl (by rfl) T.n_range (ce_var 5) (ce_op hK op_addD od_add (ce_var 5) (T.x_TRIED (by rfl))) (pg_name (i := 6) sc_exchange.nd rfl (by first | exact Or.inl rfl | exact Or.inr rfl)) (fun f1 hf1 => ⟨_, tg_name⟩) (fun f1 hf1 => (cs_cons (cs_asg (i := 7) sc_exchange.nd (ce_call (ok_parted_in T) (hc2 hf1 hct) (hk2 hf1 hK) (takes_of rfl rfl rfl rfl) (hr.mono (by decide)) (by rfl) T.f_parted_in.g T.f_parted_in.F.kp T.f_parted_in.b (ca_cons (ce_var 3) (ca_cons (ce_var 4) (ca_cons (ce_var 6) (ca_cons (ce_var 2) ca_nil))))))
    (cs_one (cs_if (ct_cmp (hk2 hf1 hK) op_notN od_isNot (ce_var 7) ce_non) (cs_one (cs_ret (ce_var 7))) cs_nil)))))
    (cs_one (cs_ret ce_non))))))))) (by decide +kernel)
theorem ok_law_source (T : Txt K mg) : FnOk P w K mg base (L2.CX P w) 1 T.a_law_source T.d_law_source ["_law_script"] (spSource K) :=
  fn_source T.f_law_source.F sc_law_source rfl rfl fun cdv A outer s H E hr => pss_cons (ps_asg (pe_slice sl_list (pv 0) po_none (po_some pe_int)) (pg_name (i := 1) sc_law_source.nd rfl (Or.inl rfl)))
    (pss_cons (ps_for (passes_of rfl) rfl (pi_range1 (by rfl) T.n_range (pa_cons (pe_callB call_len (by rfl) T.n_len PySem.boot_len (pa_cons (pv 1) pa_nil)) pa_nil)) (pg_name (i := 2) sc_law_source.nd rfl (Or.inl rfl))
      (pss_one (ps_if (pt_cmpR op_ge (pe_callB call_abs (by rfl) T.n_abs (by decide +kernel) (pa_cons (pe_ix ix_list (pv 1) (pv 2) (fun _ _ => rfl)) pa_nil)) (pe_op op_powW pe_int pe_int) (nomark _))
        (pss_one (ps_asg (pe_op op_mod (pe_callTy call_int1 (by rfl) T.n_int (by decide +kernel) (pa_cons (pe_ix ix_list (pv 1) (pv 2) (fun _ _ => rfl)) pa_nil)) (pe_op op_powW (pe_op op_powW pe_int pe_int) pe_int)) (pg_sub (pv 1) (pv 2) set_list))) pss_nil)))
    (pss_cons (ps_if (pt_cmpR (op_eqD hr.units) (pv 1) (pe_lst pa_nil) (nomark _)) (pss_one (ps_asg (pe_lst (pa_cons pe_int pa_nil)) (pg_name (i := 1) sc_law_source.nd rfl (Or.inl rfl)))) pss_nil)
    (pss_one (ps_ret (pe_lst (pa_cons (pv 1) (pa_cons pe_int pa_nil)))))))
theorem ok_law_draw (T : Txt K mg) : FnD P w K mg base T.ct 1 T.a_law_draw T.d_law_draw ["_law_source_here", "_law_limit"] 1 m_draw :=
  fn_draw T.f_law_draw.F sc_law_draw rfl rfl fun cdv A outer s H E => pss_cons (ps_asg (pv 0) (pg_lst rfl (pgs_cons (pg_name (i := 2) sc_law_draw.nd rfl (Or.inl rfl)) (pgs_cons (pg_name (i := 3) sc_law_draw.nd rfl (Or.inl rfl)) pgs_nil))))
    (pss_cons (ps_asg (pe_op op_mod (pe_callTy call_int1 (by rfl) T.n_int (by decide +kernel) (pa_cons (pv 3) pa_nil)) (pe_callB call_len (by rfl) T.n_len PySem.boot_len (pa_cons (pv 2) pa_nil))) (pg_name (i := 4) sc_law_draw.nd rfl (Or.inl rfl)))
    (pss_cons (ps_asg (pe_ix ix_list (pv 2) (pv 4) (fun _ _ => rfl)) (pg_name (i := 5) sc_law_draw.nd rfl (Or.inl rfl)))
    (pss_cons (ps_asg (pe_op op_add (pv 3) pe_int) (pg_sub (pv 0) pe_int set_list))
    (pss_cons (ps_if (pt_cmpR op_ge (pv 5) (pe_op op_powW pe_int pe_int) (nomark _)) (pss_cons (ps_asg (pe_op op_fdivW (pv 5) (pv 1)) (pg_sub (pv 2) (pv 4) set_list)) (pss_one (ps_ret (pe_op op_mod (pe_callTy call_int1 (by rfl) T.n_int (by decide +kernel) (pa_cons (pv 5) pa_nil)) (pv 1))))) pss_nil)
    (pss_cons (ps_asg (pe_op op_mod (pe_callTy call_int1 (by rfl) T.n_int (by decide +kernel) (pa_cons (pe_op op_add (pe_op op_add (pe_op op_mulW (pe_op op_mod (pe_callTy call_int1 (by rfl) T.n_int (by decide +kernel) (pa_cons (pv 5) pa_nil)) pe_int) pe_int) (pe_op op_mulW (pe_op op_mulW (pv 3) (pv 3)) pe_int)) pe_int) pa_nil)) pe_int) (pg_name (i := 6) sc_law_draw.nd rfl (Or.inl rfl)))
    (pss_cons (ps_asg (pe_op op_mod (pe_callTy call_int1 (by rfl) T.n_int (by decide +kernel) (pa_cons (pe_op op_mulW (pv 6) (pv 6)) pa_nil)) pe_int) (pg_name (i := 6) sc_law_draw.nd rfl (Or.inl rfl)))
    (pss_cons (ps_asg (pe_op op_mod (pe_callTy call_int1 (by rfl) T.n_int (by decide +kernel) (pa_cons (pe_op op_mulW (pv 6) (pv 6)) pa_nil)) pe_int) (pg_name (i := 6) sc_law_draw.nd rfl (Or.inl rfl)))
    (pss_one (ps_ret (pe_op op_mod (pe_callTy call_int1 (by rfl) T.n_int (by decide +kernel) (pa_cons (pv 6) pa_nil)) (pv 1))))))))))) 
theorem ok_law_pick (T : Txt K mg) : FnD P w K mg base T.ct 2 T.a_law_pick T.d_law_pick ["_law_source_here", "_law_values"] 1 m_law_pick :=
  FnD.cost (fn_data (k := 1) T.f_law_pick.F sc_law_pick fun cdv A outer s H E f hK hct hr =>
    (cs_one (cs_ret (ce_ix hK ix_seq od_ix (ce_var 1) (ce_call (ok_law_draw T) hct hK (takes_of rfl rfl rfl rfl) (hr.mono (by decide)) (by rfl) T.f_law_draw.g T.f_law_draw.F.kp T.f_law_draw.b (ca_cons (ce_var 0) (ca_cons (ce_blt hK call_len cd_len (by rfl) T.n_len (by decide +kernel) (ca_cons (ce_var 1) ca_nil)) ca_nil))))))) (by decide +kernel)
theorem ok_law_great (T : Txt K mg) : FnD P w K mg base T.ct 2 T.a_law_great T.d_law_great ["_law_source_here", "_law_limit"] 4611686018427387904 m_law_great :=
  FnD.cost (fn_data (k := 1) T.f_law_great.F sc_law_great fun cdv A outer s H E f hK hct hr =>
    (cs_cons (cs_asg (i := 2) sc_law_great.nd ce_int)
    (cs_cons (cs_range1 (passes_of rfl) rfl (by rfl) T.n_range ce_int (pg_name (i := 3) sc_law_great.nd rfl (by first | exact Or.inl rfl | exact Or.inr rfl)) (fun f1 hf1 => ⟨_, tg_name⟩) (fun f1 hf1 => (cs_one (cs_asg (i := 2) sc_law_great.nd (ce_op (hk2 hf1 hK) op_addD od_add (ce_op (hk2 hf1 hK) op_mulD od_mul (ce_var 2) (ce_op (hk2 hf1 hK) op_powW od_pow ce_int ce_int)) (ce_call (ok_law_draw T) (hc2 hf1 hct) (hk2 hf1 hK) (takes_of rfl rfl rfl rfl) (hr.mono (by decide)) (by rfl) T.f_law_draw.g T.f_law_draw.F.kp T.f_law_draw.b (ca_cons (ce_var 0) (ca_cons (ce_op (hk2 hf1 hK) op_powW od_pow ce_int ce_int) ca_nil))))))))
    (cs_one (cs_ret (ce_op hK op_mod od_mod (ce_blty hK call_int1 cd_int (by rfl) T.n_int (by decide +kernel) (ca_cons (ce_var 2) ca_nil)) (ce_var 1))))))) (by decide +kernel)
theorem ok_law_ten (T : Txt K mg) : FnD P w K mg base T.ct 1 T.a_law_ten T.d_law_ten ["_law_many"] 0 m_law_ten :=
  FnD.cost (fn_data (k := 0) T.f_law_ten.F sc_law_ten fun cdv A outer s H E f hK hct hr =>
    (cs_cons (cs_asg (i := 1) sc_law_ten.nd ce_int)
    (cs_cons (cs_range1 (passes_of rfl) rfl (by rfl) T.n_range (ce_var 0) (pg_name (i := 2) sc_law_ten.nd rfl (by first | exact Or.inl rfl | exact Or.inr rfl)) (fun f1 hf1 => ⟨_, tg_name⟩) (fun f1 hf1 => (cs_one (cs_asg (i := 1) sc_law_ten.nd (ce_op (hk2 hf1 hK) op_mulD od_mul (ce_var 1) ce_int)))))
    (cs_one (cs_ret (ce_var 1)))))) (by decide +kernel)
theorem ok_law_step (T : Txt K mg) : FnD P w K mg base T.ct 3 T.a_law_step T.d_law_step ["_law_source_here", "_law_most"] 4611686018427387907 m_law_step :=
  FnD.cost (fn_data (k := 2) T.f_law_step.F sc_law_step fun cdv A outer s H E f hK hct hr =>
    (cs_cons (cs_if (ct_cmp hK op_lt (od_cmp _) (ce_var 1) ce_int) (cs_one (cs_ret (ce_op hK op_addD od_add ce_int (ce_call (ok_law_draw T) hct hK (takes_of rfl rfl rfl rfl) (hr.mono (by decide)) (by rfl) T.f_law_draw.g T.f_law_draw.F.kp T.f_law_draw.b (ca_cons (ce_var 0) (ca_cons (ce_var 1) ca_nil)))))) cs_nil)
    (cs_cons (cs_asg (i := 2) sc_law_step.nd (ce_call (ok_law_pick T) hct hK (takes_of rfl rfl rfl rfl) (hr.mono (by decide)) (by rfl) T.f_law_pick.g T.f_law_pick.F.kp T.f_law_pick.b (ca_cons (ce_var 0) (ca_cons (ce_lst (ca_cons ce_int (ca_cons ce_int (ca_cons ce_int (ca_cons (ce_op hK op_powW od_pow ce_int ce_int) (ca_cons ce_int (ca_cons (ce_op hK op_powW od_pow ce_int ce_int) (ca_cons (ce_op hK op_addD od_add (ce_op hK op_powW od_pow ce_int ce_int) ce_int) (ca_cons (ce_op hK op_powW od_pow ce_int ce_int) (ca_cons (ce_op hK op_powW od_pow ce_int ce_int) ca_nil)))))))))) ca_nil))))
    (cs_one (cs_ret (ce_blt hK (call_min2 rfl) cd_min2 (by rfl) T.n_min (by decide +kernel) (ca_cons (ce_var 1) (ca_cons (ce_op hK op_mulD od_mul (ce_var 2) (ce_op hK op_addD od_add ce_int (ce_call (ok_law_great T) hct hK (takes_of rfl rfl rfl rfl) (hr.mono (by decide)) (by rfl) T.f_law_great.g T.f_law_great.F.kp T.f_law_great.b (ca_cons (ce_var 0) (ca_cons (ce_call (ok_law_ten T) hct hK (takes_of rfl rfl rfl rfl) (hr.mono (by decide)) (by rfl) T.f_law_ten.g T.f_law_ten.F.kp T.f_law_ten.b (ca_cons (ce_op hK op_addD od_add ce_int (ce_call (ok_law_draw T) hct hK (takes_of rfl rfl rfl rfl) (hr.mono (by decide)) (by rfl) T.f_law_draw.g T.f_law_draw.F.kp T.f_law_draw.b (ca_cons (ce_var 0) (ca_cons ce_int ca_nil)))) ca_nil)) ca_nil))))) ca_nil)))))))) (by decide +kernel)
theorem ok_law_side (T : Txt K mg) : FnD P w K mg base T.ct 4 T.a_law_side T.d_law_side ["_law_source_here", "_law_most"] 9223372036854775812 m_law_side :=
  FnD.cost (fn_data (k := 3) T.f_law_side.F sc_law_side fun cdv A outer s H E f hK hct hr =>
    (cs_cons (cs_asg (i := 2) sc_law_side.nd (ce_call (ok_law_step T) hct hK (takes_of rfl rfl rfl rfl) (hr.mono (by decide)) (by rfl) T.f_law_step.g T.f_law_step.F.kp T.f_law_step.b (ca_cons (ce_var 0) (ca_cons (ce_var 1) ca_nil))))
    (cs_cons (cs_asg (i := 3) sc_law_side.nd (ce_op hK op_sub od_sub (ce_call (ok_law_great T) hct hK (takes_of rfl rfl rfl rfl) (hr.mono (by decide)) (by rfl) T.f_law_great.g T.f_law_great.F.kp T.f_law_great.b (ca_cons (ce_var 0) (ca_cons (ce_op hK op_mulD od_mul ce_int (ce_var 2)) ca_nil))) (ce_var 2)))
    (cs_one (cs_ret (ce_tup (ca_cons (ce_var 3) (ca_cons (ce_var 2) (ca_cons (ce_call (ok_law_pick T) hct hK (takes_of rfl rfl rfl rfl) (hr.mono (by decide)) (by rfl) T.f_law_pick.g T.f_law_pick.F.kp T.f_law_pick.b (ca_cons (ce_var 0) (ca_cons (ce_lst (ca_cons ce_str (ca_cons ce_str (ca_cons ce_str (ca_cons ce_str (ca_cons ce_str ca_nil)))))) ca_nil))) ca_nil))))))))) (by decide +kernel)
theorem ok_law_written (T : Txt K mg) : FnD P w K mg base T.ct 1 T.a_law_written T.d_law_written ["_law_side_here", "_law_value"] 0 m_law_written :=
  FnD.cost (fn_data (k := 0) T.f_law_written.F sc_law_written fun cdv A outer s H E f hK hct hr =>
    (cs_cons (cs_to (ce_var 0) (pg_tup rfl (pgs_cons (pg_name (i := 2) sc_law_written.nd rfl (by first | exact Or.inl rfl | exact Or.inr rfl)) (pgs_cons (pg_name (i := 3) sc_law_written.nd rfl (by first | exact Or.inl rfl | exact Or.inr rfl)) (pgs_cons (pg_name (i := 4) sc_law_written.nd rfl (by first | exact Or.inl rfl | exact Or.inr rfl)) pgs_nil)))) (tg_tup hK rfl (tgs_cons (tgs_cons (tgs_cons tgs_nil)))))
    (cs_cons (cs_asg (i := 5) sc_law_written.nd (ce_op hK op_fdivW od_div (ce_op hK op_sub od_sub (ce_var 1) (ce_var 2)) (ce_var 3)))
    (cs_cons (cs_asg (i := 6) sc_law_written.nd (ce_op hK op_mod od_mod (ce_blty hK call_int1 cd_int (by rfl) T.n_int (by decide +kernel) (ca_cons (ce_op hK op_sub od_sub (ce_var 1) (ce_var 2)) ca_nil)) (ce_var 3)))
    (cs_cons (cs_asgD (i := 7) sc_law_written.nd (cp_cons ce_str ce_bl (cp_cons ce_str (ce_cmp hK op_gt (od_cmp _) (ce_var 6) ce_int) (cp_cons ce_str (ce_cmp hK op_gt (od_cmp _) (ce_op hK op_mulD od_mul ce_int (ce_var 6)) (ce_var 3)) (cp_cons ce_str (ce_cmp hK op_ge (od_cmp _) (ce_op hK op_mulD od_mul ce_int (ce_var 6)) (ce_var 3)) cp_nil)))))
    (cs_cons (cs_dput (i := 7) hr.units ce_str (ce_or (ce_cmp hK op_gt (od_cmp _) (ce_op hK op_mulD od_mul ce_int (ce_var 6)) (ce_var 3)) (ce_one (ce_and (ce_cmp hK (op_eqDD hr.units) od_eq (ce_op hK op_mulD od_mul ce_int (ce_var 6)) (ce_var 3)) (ce_one (ce_cmp hK (op_eqDD hr.units) od_eq (ce_op hK op_mod od_mod (ce_blty hK call_int1 cd_int (by rfl) T.n_int (by decide +kernel) (ca_cons (ce_var 5) ca_nil)) ce_int) ce_int))))))
    (cs_one (cs_ret (ce_op hK op_addD od_add (ce_var 2) (ce_op hK op_mulD od_mul (ce_var 3) (ce_op hK op_addD od_add (ce_var 5) (ce_blty hK call_int1 cd_int (by rfl) T.n_int (by decide +kernel) (ca_cons (ce_dget (i := 7) hr.units (ce_var 4)) ca_nil))))))))))))) (by decide +kernel)
theorem ok_law_two (T : Txt K mg) : FnD P w K mg base T.ct 5 T.a_law_two T.d_law_two ["_law_source_here"] 18446744073709551630 m_law_two :=
  FnD.cost (fn_data (k := 4) T.f_law_two.F sc_law_two fun cdv A outer s H E f hK hct hr =>
    (cs_cons (cs_par (i := 1) (j := 2) rfl sc_law_two.nd (by decide) (ce_call (ok_law_side T) hct hK (takes_of rfl rfl rfl rfl) (hr.mono (by decide)) (by rfl) T.f_law_side.g T.f_law_side.F.kp T.f_law_side.b (ca_cons (ce_var 0) (ca_cons ce_int ca_nil))) (ce_call (ok_law_side T) hct hK (takes_of rfl rfl rfl rfl) (hr.mono (by decide)) (by rfl) T.f_law_side.g T.f_law_side.F.kp T.f_law_side.b (ca_cons (ce_var 0) (ca_cons ce_int ca_nil))))
    (cs_cons (cs_asg (i := 3) sc_law_two.nd (ce_call (ok_law_draw T) hct hK (takes_of rfl rfl rfl rfl) (hr.mono (by decide)) (by rfl) T.f_law_draw.g T.f_law_draw.F.kp T.f_law_draw.b (ca_cons (ce_var 0) (ca_cons ce_int ca_nil))))
    (cs_cons (cs_if (ct_cmp hK op_gt (od_cmp _) (ce_var 3) ce_int) (cs_cons (cs_asg (i := 4) sc_law_two.nd (ce_call (ok_law_pick T) hct hK (takes_of rfl rfl rfl rfl) (hr.mono (by decide)) (by rfl) T.f_law_pick.g T.f_law_pick.F.kp T.f_law_pick.b (ca_cons (ce_var 0) (ca_cons (ce_lst (ca_cons (ce_ix hK ix_seq od_ix (ce_var 1) ce_int) (ca_cons (ce_ix hK ix_seq od_ix (ce_var 1) ce_int) (ca_cons (ce_ix hK ix_seq od_ix (ce_var 2) ce_int) ca_nil)))) ca_nil))))
    (cs_one (cs_asg (i := 2) sc_law_two.nd (ce_tup (ca_cons (ce_op hK op_addD od_add (ce_ix hK ix_seq od_ix (ce_var 1) ce_int) (ce_op hK op_mulD od_mul (ce_ix hK ix_seq od_ix (ce_var 1) ce_int) (ce_op hK op_sub od_sub (ce_call (ok_law_draw T) hct hK (takes_of rfl rfl rfl rfl) (hr.mono (by decide)) (by rfl) T.f_law_draw.g T.f_law_draw.F.kp T.f_law_draw.b (ca_cons (ce_var 0) (ca_cons ce_int ca_nil))) ce_int))) (ca_cons (ce_op hK op_mulD od_mul (ce_ix hK ix_seq od_ix (ce_var 1) ce_int) (ce_op hK op_addD od_add ce_int (ce_call (ok_law_draw T) hct hK (takes_of rfl rfl rfl rfl) (hr.mono (by decide)) (by rfl) T.f_law_draw.g T.f_law_draw.F.kp T.f_law_draw.b (ca_cons (ce_var 0) (ca_cons ce_int ca_nil))))) (ca_cons (ce_var 4) ca_nil))))))) cs_nil)
    (cs_cons (cs_if (ct_cmp hK (op_eqDD hr.units) od_eq (ce_var 3) ce_int) (cs_one (cs_asg (i := 2) sc_law_two.nd (ce_tup (ca_cons (ce_op hK op_addD od_add (ce_ix hK ix_seq od_ix (ce_var 2) ce_int) (ce_call (ok_law_pick T) hct hK (takes_of rfl rfl rfl rfl) (hr.mono (by decide)) (by rfl) T.f_law_pick.g T.f_law_pick.F.kp T.f_law_pick.b (ca_cons (ce_var 0) (ca_cons (ce_lst (ca_cons ce_int (ca_cons ce_int (ca_cons (ce_op hK op_fdivW od_div (ce_ix hK ix_seq od_ix (ce_var 1) ce_int) ce_int) ca_nil)))) ca_nil)))) (ca_cons (ce_ix hK ix_seq od_ix (ce_var 2) ce_int) (ca_cons (ce_ix hK ix_seq od_ix (ce_var 2) ce_int) ca_nil)))))) cs_nil)
    (cs_cons (cs_if (ct_cmp hK (op_eqDD hr.units) od_eq (ce_call (ok_law_draw T) hct hK (takes_of rfl rfl rfl rfl) (hr.mono (by decide)) (by rfl) T.f_law_draw.g T.f_law_draw.F.kp T.f_law_draw.b (ca_cons (ce_var 0) (ca_cons ce_int ca_nil))) ce_int) (cs_one (cs_par (i := 1) (j := 2) rfl sc_law_two.nd (by decide) (ce_var 2) (ce_var 1))) cs_nil)
    (cs_one (cs_ret (ce_tup (ca_cons (ce_var 1) (ca_cons (ce_var 2) ca_nil))))))))))) (by decide +kernel)
theorem ok_law_differs (T : Txt K mg) : FnD P w K mg base T.ct 2 T.a_law_differs T.d_law_differs ["_law_one", "_law_other", "_law_value"] 0 m_law_differs :=
  FnD.cost (fn_data (k := 1) T.f_law_differs.F sc_law_differs fun cdv A outer s H E f hK hct hr =>
    (cs_one (cs_ret (ce_cmp hK (op_neDD hr.units) od_ne (ce_call (ok_law_written T) hct hK (takes_of rfl rfl rfl rfl) (hr.mono (by decide)) (by rfl) T.f_law_written.g T.f_law_written.F.kp T.f_law_written.b (ca_cons (ce_var 1) (ca_cons (ce_call (ok_law_written T) hct hK (takes_of rfl rfl rfl rfl) (hr.mono (by decide)) (by rfl) T.f_law_written.g T.f_law_written.F.kp T.f_law_written.b (ca_cons (ce_var 0) (ca_cons (ce_var 2) ca_nil))) ca_nil))) (ce_call (ok_law_written T) hct hK (takes_of rfl rfl rfl rfl) (hr.mono (by decide)) (by rfl) T.f_law_written.g T.f_law_written.F.kp T.f_law_written.b (ca_cons (ce_var 0) (ca_cons (ce_call (ok_law_written T) hct hK (takes_of rfl rfl rfl rfl) (hr.mono (by decide)) (by rfl) T.f_law_written.g T.f_law_written.F.kp T.f_law_written.b (ca_cons (ce_var 1) (ca_cons (ce_var 2) ca_nil))) ca_nil))))))) (by decide +kernel)
theorem ok_law_word (T : Txt K mg) : FnD P w K mg base T.ct 5 T.a_law_word T.d_law_word ["_law_one", "_law_other", "_law_value"] 0 m_law_word :=
  FnD.cost (fn_data (k := 4) T.f_law_word.F sc_law_word fun cdv A outer s H E f hK hct hr =>
    (cs_cons (cs_asg (i := 3) sc_law_word.nd ce_non)
    (cs_cons (cs_try (i := 4) (j := 3) hK hct rfl T.h_HandedError rfl rfl rfl sc_law_word.nd rfl rfl rfl rfl (by rfl) T.o_HandedError (takes_of rfl rfl rfl rfl) (fun W1 pn1 xe1 tk1 hp1 => (cs_one (cs_expr (ce_call (ok_exchange T) hct hK tk1 (hr.mono (by decide)) (by rfl) T.f_exchange.g T.f_exchange.F.kp T.f_exchange.b (ca_cons (ce_var 0) (ca_cons (ce_var 1) (ca_cons (ce_var 2) ca_nil))))))))
    (cs_cons (cs_if (ct_cmp hK op_isN od_is (ce_var 3) ce_non) (cs_one (cs_ret ce_str)) cs_nil)
    (cs_cons (cs_asg (i := 5) sc_law_word.nd (ce_lst (ca_cons (ce_isx hct rfl T.i_InvalidSide ⟨_, rfl⟩ (by rfl) T.n_isinstance (by rfl) T.o_InvalidSide (ce_var 3)) (ca_cons (ce_isx hct rfl T.i_InvalidValue ⟨_, rfl⟩ (by rfl) T.n_isinstance (by rfl) T.o_InvalidValue (ce_var 3)) (ca_cons (ce_isx hct rfl T.i_InvalidSides ⟨_, rfl⟩ (by rfl) T.n_isinstance (by rfl) T.o_InvalidSides (ce_var 3)) ca_nil)))))
    (cs_cons (cs_if (ct_w (cw_or (ct_cmp hK (op_neDD hr.units) od_ne (ce_lcount hK (ce_var 5) ce_bl) ce_int) (cw_or1 (ct_not (ct_truth hK (ce_isxB hct rfl T.i_ValueError (by rfl) T.n_isinstance (by rfl) T.n_ValueError (by decide +kernel) (ce_var 3))))))) (cs_one (cs_ret ce_str)) cs_nil)
    (cs_one (cs_ret (ce_ix hK ix_seq od_ix (ce_lst (ca_cons ce_str (ca_cons ce_str (ca_cons ce_str ca_nil)))) (ce_lindex hK (ce_var 5) ce_bl)))))))))) (by decide +kernel)
theorem ok_law_doors_right (T : Txt K mg) : FnD P w K mg base T.ct 6 T.a_law_doors_right T.d_law_doors_right ["_law_good"] 0 m_law_doors_right :=
  FnD.cost (fn_data (k := 5) T.f_law_doors_right.F sc_law_doors_right fun cdv A outer s H E f hK hct hr =>
    (cs_cons (cs_for hK (passes_of rfl) rfl (ce_lst (ca_cons ce_non (ca_cons ce_int (ca_cons (ce_tup (ca_cons ce_int (ca_cons ce_int (ca_cons ce_str ca_nil)))) (ca_cons (ce_tup (ca_cons ce_int (ca_cons ce_int (ca_cons ce_str ca_nil)))) (ca_cons (ce_lst (ca_cons ce_int (ca_cons ce_int (ca_cons ce_str ca_nil)))) (ca_cons (ce_tup (ca_cons ce_bl (ca_cons ce_int (ca_cons ce_str ca_nil)))) (ca_cons (ce_tup (ca_cons ce_int (ca_cons ce_int ca_nil))) (ca_cons ce_str (ca_cons (ce_lst (ca_cons (ce_var 0) ca_nil)) ca_nil)))))))))) (pg_name (i := 1) sc_law_doors_right.nd rfl (by first | exact Or.inl rfl | exact Or.inr rfl)) (fun f1 hf1 => ⟨_, tg_name⟩) (fun f1 hf1 => (cs_one (cs_if (ct_w (cw_or (ct_cmp (hk2 hf1 hK) (op_neDD hr.units) od_ne (ce_call (ok_law_word T) (hc2 hf1 hct) (hk2 hf1 hK) (takes_of rfl rfl rfl rfl) (hr.mono (by decide)) (by rfl) T.f_law_word.g T.f_law_word.F.kp T.f_law_word.b (ca_cons (ce_var 1) (ca_cons (ce_var 0) (ca_cons ce_non ca_nil)))) ce_str) (cw_or1 (ct_cmp (hk2 hf1 hK) (op_neDD hr.units) od_ne (ce_call (ok_law_word T) (hc2 hf1 hct) (hk2 hf1 hK) (takes_of rfl rfl rfl rfl) (hr.mono (by decide)) (by rfl) T.f_law_word.g T.f_law_word.F.kp T.f_law_word.b (ca_cons (ce_var 0) (ca_cons (ce_var 1) (ca_cons ce_non ca_nil)))) ce_str)))) (cs_one (cs_ret ce_bl)) cs_nil))))
    (cs_one (cs_ret (ce_cmp hK (op_eqDD hr.units) od_eq (ce_frz (have P := (show LcP _ _ _ [("_law_value", 2)] _ _ _ _ _ _ _ _ _ _ from ⟨blkOk_by (N := ["_law_good", "_law_bad", "_law_value"]) (sc := defScope s_law_doors_right) (own := [("_law_value", 2)]) (by decide +kernel), fun _ _ _ _ _ => (pg_name (i := 2) sc_law_doors_right.nd rfl (by first | exact Or.inl rfl | exact Or.inr rfl)), tg_name, (by decide), fun _ _ _ _ _ => cts_nil, fun _ _ _ _ _ => (ce_call (ok_law_word T) hct hK takes0 (hr.mono (by decide)) (by rfl) T.f_law_word.g T.f_law_word.F.kp T.f_law_word.b (ca_cons (ce_var 0) (ca_cons (ce_var 0) (ca_cons (ce_var 2) ca_nil))))⟩); cl_lc rfl sc_law_doors_right.nd P (li_list P rfl (ce_lst (ca_cons ce_non (ca_cons ce_bl (ca_cons ce_bl (ca_cons ce_str (ca_cons (ce_lst ca_nil) (ca_cons (ce_tup (ca_cons ce_int ca_nil)) ca_nil)))))))))) (ce_op hK op_mulD od_mul (ce_lst (ca_cons ce_str ca_nil)) ce_int)))))) (by decide +kernel)
theorem ok_law (T : Txt K mg) : FnOk P w K mg base (L2.CX P w) 7 T.a_law T.d_law ["_law_script"] (spLaw K 9 m_law) :=
  fn_law (k := 6) (ct := T.ct) T.f_law.F sc_law rfl (by decide +kernel) rfl ((ok_law_source T).mono (by decide)) T.f_law_source.g T.f_law_source.F.kp T.f_law_source.b rfl rfl rfl rfl rfl (by decide) (by decide) (by decide)
    fun cdv A outer s H E f hK hct hr =>
    (cs_cons (cs_range1 (passes_of rfl) rfl (by rfl) T.n_range ce_int (pg_name (i := 2) sc_law.nd rfl (by first | exact Or.inl rfl | exact Or.inr rfl)) (fun f1 hf1 => ⟨_, tg_name⟩) (fun f1 hf1 => (cs_cons (cs_to (ce_call (ok_law_two T) (hc2 hf1 hct) (hk2 hf1 hK) (takes_of rfl rfl rfl rfl) (hr.mono (by decide)) (by rfl) T.f_law_two.g T.f_law_two.F.kp T.f_law_two.b (ca_cons (ce_var 1) ca_nil)) (pg_tup rfl (pgs_cons (pg_name (i := 3) sc_law.nd rfl (by first | exact Or.inl rfl | exact Or.inr rfl)) (pgs_cons (pg_name (i := 4) sc_law.nd rfl (by first | exact Or.inl rfl | exact Or.inr rfl)) pgs_nil))) (tg_tup (hk2 hf1 hK) rfl (tgs_cons (tgs_cons tgs_nil))))
    (cs_cons (cs_asg (i := 5) sc_law.nd (ce_op (hk2 hf1 hK) op_mulD od_mul (ce_op (hk2 hf1 hK) op_mulD od_mul ce_int (ce_ix (hk2 hf1 hK) ix_seq od_ix (ce_var 3) ce_int)) (ce_ix (hk2 hf1 hK) ix_seq od_ix (ce_var 4) ce_int)))
    (cs_cons (have P := (show LcP _ _ _ [("_law_value", 7)] _ _ _ _ _ _ _ _ _ _ from ⟨blkOk_by (N := ["_law_script", "_law_source_here", "_law_turn", "_law_one", "_law_other", "_law_period", "_law_marks", "_law_value", "_law_later", "_law_mark", "_law_due"]) (sc := defScope s_law) (own := [("_law_value", 7)]) (by decide +kernel), fun _ _ _ _ _ => (pg_name (i := 7) sc_law.nd rfl (by first | exact Or.inl rfl | exact Or.inr rfl)), tg_name, (by decide), fun _ _ _ _ _ => (cts_one (ct_truth (hk2 hf1 hK) (ce_call (ok_law_differs T) (hc2 hf1 hct) (hk2 hf1 hK) takes0 (hr.mono (by decide)) (by rfl) T.f_law_differs.g T.f_law_differs.F.kp T.f_law_differs.b (ca_cons (ce_var 3) (ca_cons (ce_var 4) (ca_cons (ce_var 7) ca_nil)))))), fun _ _ _ _ _ => (ce_var 7)⟩); cs_asgLc (i := 6) rfl sc_law.nd P (li_range1 P (by rfl) T.n_range (ce_var 5)) (sw_true rfl rfl rfl (by decide +kernel)))
    (cs_one (cs_for (hk2 hf1 hK) (passes_of rfl) rfl (ce_lst (ca_cons ce_int (ca_cons (ce_op (hk2 hf1 hK) op_sub od_sub (ce_var 5) ce_int) (ca_cons (ce_call (ok_law_draw T) (hc2 hf1 hct) (hk2 hf1 hK) (takes_of rfl rfl rfl rfl) (hr.mono (by decide)) (by rfl) T.f_law_draw.g T.f_law_draw.F.kp T.f_law_draw.b (ca_cons (ce_var 1) (ca_cons (ce_var 5) ca_nil))) (ca_cons (ce_call (ok_law_draw T) (hc2 hf1 hct) (hk2 hf1 hK) (takes_of rfl rfl rfl rfl) (hr.mono (by decide)) (by rfl) T.f_law_draw.g T.f_law_draw.F.kp T.f_law_draw.b (ca_cons (ce_var 1) (ca_cons (ce_var 5) ca_nil))) ca_nil))))) (pg_name (i := 7) sc_law.nd rfl (by first | exact Or.inl rfl | exact Or.inr rfl)) (fun f2 hf2 => ⟨_, tg_name⟩) (fun f2 hf2 => (cs_cons (cs_asg (i := 8) sc_law.nd (ce_op (hk2 hf2 (hk2 hf1 hK)) op_addD od_add (ce_frz (have P := (show LcP _ _ _ [("_law_mark", 9)] _ _ _ _ _ _ _ _ _ _ from ⟨blkOk_by (N := ["_law_script", "_law_source_here", "_law_turn", "_law_one", "_law_other", "_law_period", "_law_marks", "_law_value", "_law_later", "_law_mark", "_law_due"]) (sc := defScope s_law) (own := [("_law_mark", 9)]) (by decide +kernel), fun _ _ _ _ _ => (pg_name (i := 9) sc_law.nd rfl (by first | exact Or.inl rfl | exact Or.inr rfl)), tg_name, (by decide), fun _ _ _ _ _ => (cts_one (ct_cmp (hk2 hf2 (hk2 hf1 hK)) op_ge (od_cmp _) (ce_var 9) (ce_var 7))), fun _ _ _ _ _ => (ce_var 9)⟩); cl_lc rfl sc_law.nd P (li_list P rfl (ce_var 6)))) (ce_frz (have P := (show LcP _ _ _ [("_law_mark", 9)] _ _ _ _ _ _ _ _ _ _ from ⟨blkOk_by (N := ["_law_script", "_law_source_here", "_law_turn", "_law_one", "_law_other", "_law_period", "_law_marks", "_law_value", "_law_later", "_law_mark", "_law_due"]) (sc := defScope s_law) (own := [("_law_mark", 9)]) (by decide +kernel), fun _ _ _ _ _ => (pg_name (i := 9) sc_law.nd rfl (by first | exact Or.inl rfl | exact Or.inr rfl)), tg_name, (by decide), fun _ _ _ _ _ => cts_nil, fun _ _ _ _ _ => (ce_op (hk2 hf2 (hk2 hf1 hK)) op_addD od_add (ce_var 9) (ce_var 5))⟩); cl_lc rfl sc_law.nd P (li_list P rfl (ce_var 6))))))
    (cs_cons (cs_asg (i := 10) sc_law.nd (ce_ix (hk2 hf2 (hk2 hf1 hK)) ix_seq od_ix (ce_op (hk2 hf2 (hk2 hf1 hK)) op_addD od_add (ce_var 8) (ce_lst (ca_cons ce_non ca_nil))) ce_int))
    (cs_cons (cs_if (ct_w (cw_or (ct_cmp (hk2 hf2 (hk2 hf1 hK)) (op_neDD hr.units) od_ne (ce_call (ok_exchange T) (hc2 hf2 (hc2 hf1 hct)) (hk2 hf2 (hk2 hf1 hK)) (takes_of rfl rfl rfl rfl) (hr.mono (by decide)) (by rfl) T.f_exchange.g T.f_exchange.F.kp T.f_exchange.b (ca_cons (ce_var 3) (ca_cons (ce_var 4) (ca_cons (ce_var 7) ca_nil)))) (ce_var 10)) (cw_or1 (ct_cmp (hk2 hf2 (hk2 hf1 hK)) (op_neDD hr.units) od_ne (ce_call (ok_exchange T) (hc2 hf2 (hc2 hf1 hct)) (hk2 hf2 (hk2 hf1 hK)) (takes_of rfl rfl rfl rfl) (hr.mono (by decide)) (by rfl) T.f_exchange.g T.f_exchange.F.kp T.f_exchange.b (ca_cons (ce_var 4) (ca_cons (ce_var 3) (ca_cons (ce_var 7) ca_nil)))) (ce_var 10))))) (cs_one (cs_ret ce_bl)) cs_nil)
    (cs_one (cs_if (ct_w (cw_and (ct_cmp (hk2 hf2 (hk2 hf1 hK)) (op_neDD hr.units) od_ne (ce_var 6) (ce_lst ca_nil)) (cw_and1 (ct_cmp (hk2 hf2 (hk2 hf1 hK)) (op_neDD hr.units) od_ne (ce_call (ok_exchange T) (hc2 hf2 (hc2 hf1 hct)) (hk2 hf2 (hk2 hf1 hK)) (takes_of rfl rfl rfl rfl) (hr.mono (by decide)) (by rfl) T.f_exchange.g T.f_exchange.F.kp T.f_exchange.b (ca_cons (ce_var 3) (ca_cons (ce_var 4) (ca_cons (ce_op (hk2 hf2 (hk2 hf1 hK)) op_sub od_sub (ce_var 7) (ce_op (hk2 hf2 (hk2 hf1 hK)) op_mulD od_mul ce_int (ce_var 5))) ca_nil)))) (ce_op (hk2 hf2 (hk2 hf1 hK)) op_sub od_sub (ce_var 10) (ce_op (hk2 hf2 (hk2 hf1 hK)) op_mulD od_mul ce_int (ce_var 5))))))) (cs_one (cs_ret ce_bl)) cs_nil)))))))))))))
    (cs_cons (cs_if (ct_cmp hK (op_neDD hr.units) od_ne (ce_call (ok_exchange T) hct hK (takes_of rfl rfl rfl rfl) (hr.mono (by decide)) (by rfl) T.f_exchange.g T.f_exchange.F.kp T.f_exchange.b (ca_cons (ce_tup (ca_cons ce_int (ca_cons ce_int (ca_cons ce_str ca_nil)))) (ca_cons (ce_tup (ca_cons ce_int (ca_cons ce_int (ca_cons ce_str ca_nil)))) (ca_cons ce_int ca_nil)))) ce_int) (cs_one (cs_ret ce_bl)) cs_nil)
    (cs_cons (cs_if (ct_cmp hK op_notN od_isNot (ce_call (ok_exchange T) hct hK (takes_of rfl rfl rfl rfl) (hr.mono (by decide)) (by rfl) T.f_exchange.g T.f_exchange.F.kp T.f_exchange.b (ca_cons (ce_tup (ca_cons ce_int (ca_cons ce_int (ca_cons ce_str ca_nil)))) (ca_cons (ce_tup (ca_cons ce_int (ca_cons ce_int (ca_cons ce_str ca_nil)))) (ca_cons ce_int ca_nil)))) ce_non) (cs_one (cs_ret ce_bl)) cs_nil)
    (cs_one (cs_ret (ce_and (ce_cmp hK (op_eqDD hr.units) od_eq (ce_call (ok_exchange T) hct hK (takes_of rfl rfl rfl rfl) (hr.mono (by decide)) (by rfl) T.f_exchange.g T.f_exchange.F.kp T.f_exchange.b (ca_cons (ce_tup (ca_cons ce_int (ca_cons ce_int (ca_cons ce_str ca_nil)))) (ca_cons (ce_tup (ca_cons ce_int (ca_cons ce_int (ca_cons ce_str ca_nil)))) (ca_cons ce_int ca_nil)))) ce_int) (ce_one (ce_call (ok_law_doors_right T) hct hK (takes_of rfl rfl rfl rfl) (hr.mono (by decide)) (by rfl) T.f_law_doors_right.g T.f_law_doors_right.F.kp T.f_law_doors_right.b (ca_cons (ce_tup (ca_cons ce_int (ca_cons ce_int (ca_cons ce_str ca_nil)))) ca_nil)))))))))
end
theorem txt_mk {K : PySem.W.Frag} {h : Heap} {mg : Str → Option Value} (X : K.In h) (G : h.Ns mainGlobals mg)
    {f0 : Addr} {od0 an0 : Option Addr} {sl0 : Array (Option Value)} {oc0 kV0 dc0 pm0 cd0 ct0 : Value}
    {f1 : Addr} {od1 an1 : Option Addr} {sl1 : Array (Option Value)} {oc1 kV1 dc1 pm1 cd1 ct1 : Value}
    {f2 : Addr} {od2 an2 : Option Addr} {sl2 : Array (Option Value)} {oc2 kV2 dc2 pm2 cd2 ct2 : Value}
    {f3 : Addr} {od3 an3 : Option Addr} {sl3 : Array (Option Value)} {oc3 kV3 dc3 pm3 cd3 ct3 : Value}
    {f4 : Addr} {od4 an4 : Option Addr} {sl4 : Array (Option Value)} {oc4 kV4 dc4 pm4 cd4 ct4 : Value}
    {f5 : Addr} {od5 an5 : Option Addr} {sl5 : Array (Option Value)} {oc5 kV5 dc5 pm5 cd5 ct5 : Value}
    {f6 : Addr} {od6 an6 : Option Addr} {sl6 : Array (Option Value)} {oc6 kV6 dc6 pm6 cd6 ct6 : Value}
    {f7 : Addr} {od7 an7 : Option Addr} {sl7 : Array (Option Value)} {oc7 kV7 dc7 pm7 cd7 ct7 : Value}
    {f8 : Addr} {od8 an8 : Option Addr} {sl8 : Array (Option Value)} {oc8 kV8 dc8 pm8 cd8 ct8 : Value}
    {f9 : Addr} {od9 an9 : Option Addr} {sl9 : Array (Option Value)} {oc9 kV9 dc9 pm9 cd9 ct9 : Value}
    {f10 : Addr} {od10 an10 : Option Addr} {sl10 : Array (Option Value)} {oc10 kV10 dc10 pm10 cd10 ct10 : Value}
    {f11 : Addr} {od11 an11 : Option Addr} {sl11 : Array (Option Value)} {oc11 kV11 dc11 pm11 cd11 ct11 : Value}
    {f12 : Addr} {od12 an12 : Option Addr} {sl12 : Array (Option Value)} {oc12 kV12 dc12 pm12 cd12 ct12 : Value}
    {f13 : Addr} {od13 an13 : Option Addr} {sl13 : Array (Option Value)} {oc13 kV13 dc13 pm13 cd13 ct13 : Value}
    {f14 : Addr} {od14 an14 : Option Addr} {sl14 : Array (Option Value)} {oc14 kV14 dc14 pm14 cd14 ct14 : Value}
    {f15 : Addr} {od15 an15 : Option Addr} {sl15 : Array (Option Value)} {oc15 kV15 dc15 pm15 cd15 ct15 : Value}
    {f16 : Addr} {od16 an16 : Option Addr} {sl16 : Array (Option Value)} {oc16 kV16 dc16 pm16 cd16 ct16 : Value}
    {f17 : Addr} {od17 an17 : Option Addr} {sl17 : Array (Option Value)} {oc17 kV17 dc17 pm17 cd17 ct17 : Value}
    {f18 : Addr} {od18 an18 : Option Addr} {sl18 : Array (Option Value)} {oc18 kV18 dc18 pm18 cd18 ct18 : Value}
    {f19 : Addr} {od19 an19 : Option Addr} {sl19 : Array (Option Value)} {oc19 kV19 dc19 pm19 cd19 ct19 : Value}
    {f20 : Addr} {od20 an20 : Option Addr} {sl20 : Array (Option Value)} {oc20 kV20 dc20 pm20 cd20 ct20 : Value}
    {f21 : Addr} {od21 an21 : Option Addr} {sl21 : Array (Option Value)} {oc21 kV21 dc21 pm21 cd21 ct21 : Value}
    {C_InvalidSide : Addr}
    {C_InvalidValue : Addr}
    {C_HandedError : Addr}
    {C_InvalidSides : Addr}
    {t_GREATEST_OFFSET : Tok}
    {t_GREATEST_STEP : Tok}
    {A_MODES : Addr} {o_MODES : Obj} {i_MODES : Array Value} {n_MODES : Nat}
    {t_TRIED : Tok}
    (a0 : PySem.W.nsIn K mainGlobals "is_integer" = some (some (.ref f0))) (l0 : K.lookup f0 = some ⟨oc0, od0, .func (PySem.W.fnOf "is_integer" "is_integer" (defArgs s_is_integer) (defBody s_is_integer) (defScope s_is_integer) .none kV0 dc0 pm0 an0 cd0 ct0), sl0⟩) (c0 : PySem.W.codeIn K cd0 "is_integer" = true) (k0 : PySem.W.keepIn K (.ref f0) = true)
    (a1 : PySem.W.nsIn K mainGlobals "is_side" = some (some (.ref f1))) (l1 : K.lookup f1 = some ⟨oc1, od1, .func (PySem.W.fnOf "is_side" "is_side" (defArgs s_is_side) (defBody s_is_side) (defScope s_is_side) .none kV1 dc1 pm1 an1 cd1 ct1), sl1⟩) (c1 : PySem.W.codeIn K cd1 "is_side" = true) (k1 : PySem.W.keepIn K (.ref f1) = true)
    (a2 : PySem.W.nsIn K mainGlobals "check_side" = some (some (.ref f2))) (l2 : K.lookup f2 = some ⟨oc2, od2, .func (PySem.W.fnOf "check_side" "check_side" (defArgs s_check_side) (defBody s_check_side) (defScope s_check_side) .none kV2 dc2 pm2 an2 cd2 ct2), sl2⟩) (c2 : PySem.W.codeIn K cd2 "check_side" = true) (k2 : PySem.W.keepIn K (.ref f2) = true)
    (a3 : PySem.W.nsIn K mainGlobals "check_value" = some (some (.ref f3))) (l3 : K.lookup f3 = some ⟨oc3, od3, .func (PySem.W.fnOf "check_value" "check_value" (defArgs s_check_value) (defBody s_check_value) (defScope s_check_value) .none kV3 dc3 pm3 an3 cd3 ct3), sl3⟩) (c3 : PySem.W.codeIn K cd3 "check_value" = true) (k3 : PySem.W.keepIn K (.ref f3) = true)
    (a4 : PySem.W.nsIn K mainGlobals "threshold" = some (some (.ref f4))) (l4 : K.lookup f4 = some ⟨oc4, od4, .func (PySem.W.fnOf "threshold" "threshold" (defArgs s_threshold) (defBody s_threshold) (defScope s_threshold) .none kV4 dc4 pm4 an4 cd4 ct4), sl4⟩) (c4 : PySem.W.codeIn K cd4 "threshold" = true) (k4 : PySem.W.keepIn K (.ref f4) = true)
    (a5 : PySem.W.nsIn K mainGlobals "figure_for" = some (some (.ref f5))) (l5 : K.lookup f5 = some ⟨oc5, od5, .func (PySem.W.fnOf "figure_for" "figure_for" (defArgs s_figure_for) (defBody s_figure_for) (defScope s_figure_for) .none kV5 dc5 pm5 an5 cd5 ct5), sl5⟩) (c5 : PySem.W.codeIn K cd5 "figure_for" = true) (k5 : PySem.W.keepIn K (.ref f5) = true)
    (a6 : PySem.W.nsIn K mainGlobals "least_for" = some (some (.ref f6))) (l6 : K.lookup f6 = some ⟨oc6, od6, .func (PySem.W.fnOf "least_for" "least_for" (defArgs s_least_for) (defBody s_least_for) (defScope s_least_for) .none kV6 dc6 pm6 an6 cd6 ct6), sl6⟩) (c6 : PySem.W.codeIn K cd6 "least_for" = true) (k6 : PySem.W.keepIn K (.ref f6) = true)
    (a7 : PySem.W.nsIn K mainGlobals "parted_in" = some (some (.ref f7))) (l7 : K.lookup f7 = some ⟨oc7, od7, .func (PySem.W.fnOf "parted_in" "parted_in" (defArgs s_parted_in) (defBody s_parted_in) (defScope s_parted_in) .none kV7 dc7 pm7 an7 cd7 ct7), sl7⟩) (c7 : PySem.W.codeIn K cd7 "parted_in" = true) (k7 : PySem.W.keepIn K (.ref f7) = true)
    (a8 : PySem.W.nsIn K mainGlobals "exchange" = some (some (.ref f8))) (l8 : K.lookup f8 = some ⟨oc8, od8, .func (PySem.W.fnOf "exchange" "exchange" (defArgs s_exchange) (defBody s_exchange) (defScope s_exchange) .none kV8 dc8 pm8 an8 cd8 ct8), sl8⟩) (c8 : PySem.W.codeIn K cd8 "exchange" = true) (k8 : PySem.W.keepIn K (.ref f8) = true)
    (a9 : PySem.W.nsIn K mainGlobals "_law_source" = some (some (.ref f9))) (l9 : K.lookup f9 = some ⟨oc9, od9, .func (PySem.W.fnOf "_law_source" "_law_source" (defArgs s_law_source) (defBody s_law_source) (defScope s_law_source) .none kV9 dc9 pm9 an9 cd9 ct9), sl9⟩) (c9 : PySem.W.codeIn K cd9 "_law_source" = true) (k9 : PySem.W.keepIn K (.ref f9) = true)
    (a10 : PySem.W.nsIn K mainGlobals "_law_draw" = some (some (.ref f10))) (l10 : K.lookup f10 = some ⟨oc10, od10, .func (PySem.W.fnOf "_law_draw" "_law_draw" (defArgs s_law_draw) (defBody s_law_draw) (defScope s_law_draw) .none kV10 dc10 pm10 an10 cd10 ct10), sl10⟩) (c10 : PySem.W.codeIn K cd10 "_law_draw" = true) (k10 : PySem.W.keepIn K (.ref f10) = true)
    (a11 : PySem.W.nsIn K mainGlobals "_law_pick" = some (some (.ref f11))) (l11 : K.lookup f11 = some ⟨oc11, od11, .func (PySem.W.fnOf "_law_pick" "_law_pick" (defArgs s_law_pick) (defBody s_law_pick) (defScope s_law_pick) .none kV11 dc11 pm11 an11 cd11 ct11), sl11⟩) (c11 : PySem.W.codeIn K cd11 "_law_pick" = true) (k11 : PySem.W.keepIn K (.ref f11) = true)
    (a12 : PySem.W.nsIn K mainGlobals "_law_great" = some (some (.ref f12))) (l12 : K.lookup f12 = some ⟨oc12, od12, .func (PySem.W.fnOf "_law_great" "_law_great" (defArgs s_law_great) (defBody s_law_great) (defScope s_law_great) .none kV12 dc12 pm12 an12 cd12 ct12), sl12⟩) (c12 : PySem.W.codeIn K cd12 "_law_great" = true) (k12 : PySem.W.keepIn K (.ref f12) = true)
    (a13 : PySem.W.nsIn K mainGlobals "_law_ten" = some (some (.ref f13))) (l13 : K.lookup f13 = some ⟨oc13, od13, .func (PySem.W.fnOf "_law_ten" "_law_ten" (defArgs s_law_ten) (defBody s_law_ten) (defScope s_law_ten) .none kV13 dc13 pm13 an13 cd13 ct13), sl13⟩) (c13 : PySem.W.codeIn K cd13 "_law_ten" = true) (k13 : PySem.W.keepIn K (.ref f13) = true)
    (a14 : PySem.W.nsIn K mainGlobals "_law_step" = some (some (.ref f14))) (l14 : K.lookup f14 = some ⟨oc14, od14, .func (PySem.W.fnOf "_law_step" "_law_step" (defArgs s_law_step) (defBody s_law_step) (defScope s_law_step) .none kV14 dc14 pm14 an14 cd14 ct14), sl14⟩) (c14 : PySem.W.codeIn K cd14 "_law_step" = true) (k14 : PySem.W.keepIn K (.ref f14) = true)
    (a15 : PySem.W.nsIn K mainGlobals "_law_side" = some (some (.ref f15))) (l15 : K.lookup f15 = some ⟨oc15, od15, .func (PySem.W.fnOf "_law_side" "_law_side" (defArgs s_law_side) (defBody s_law_side) (defScope s_law_side) .none kV15 dc15 pm15 an15 cd15 ct15), sl15⟩) (c15 : PySem.W.codeIn K cd15 "_law_side" = true) (k15 : PySem.W.keepIn K (.ref f15) = true)
    (a16 : PySem.W.nsIn K mainGlobals "_law_written" = some (some (.ref f16))) (l16 : K.lookup f16 = some ⟨oc16, od16, .func (PySem.W.fnOf "_law_written" "_law_written" (defArgs s_law_written) (defBody s_law_written) (defScope s_law_written) .none kV16 dc16 pm16 an16 cd16 ct16), sl16⟩) (c16 : PySem.W.codeIn K cd16 "_law_written" = true) (k16 : PySem.W.keepIn K (.ref f16) = true)
    (a17 : PySem.W.nsIn K mainGlobals "_law_two" = some (some (.ref f17))) (l17 : K.lookup f17 = some ⟨oc17, od17, .func (PySem.W.fnOf "_law_two" "_law_two" (defArgs s_law_two) (defBody s_law_two) (defScope s_law_two) .none kV17 dc17 pm17 an17 cd17 ct17), sl17⟩) (c17 : PySem.W.codeIn K cd17 "_law_two" = true) (k17 : PySem.W.keepIn K (.ref f17) = true)
    (a18 : PySem.W.nsIn K mainGlobals "_law_differs" = some (some (.ref f18))) (l18 : K.lookup f18 = some ⟨oc18, od18, .func (PySem.W.fnOf "_law_differs" "_law_differs" (defArgs s_law_differs) (defBody s_law_differs) (defScope s_law_differs) .none kV18 dc18 pm18 an18 cd18 ct18), sl18⟩) (c18 : PySem.W.codeIn K cd18 "_law_differs" = true) (k18 : PySem.W.keepIn K (.ref f18) = true)
    (a19 : PySem.W.nsIn K mainGlobals "_law_word" = some (some (.ref f19))) (l19 : K.lookup f19 = some ⟨oc19, od19, .func (PySem.W.fnOf "_law_word" "_law_word" (defArgs s_law_word) (defBody s_law_word) (defScope s_law_word) .none kV19 dc19 pm19 an19 cd19 ct19), sl19⟩) (c19 : PySem.W.codeIn K cd19 "_law_word" = true) (k19 : PySem.W.keepIn K (.ref f19) = true)
    (a20 : PySem.W.nsIn K mainGlobals "_law_doors_right" = some (some (.ref f20))) (l20 : K.lookup f20 = some ⟨oc20, od20, .func (PySem.W.fnOf "_law_doors_right" "_law_doors_right" (defArgs s_law_doors_right) (defBody s_law_doors_right) (defScope s_law_doors_right) .none kV20 dc20 pm20 an20 cd20 ct20), sl20⟩) (c20 : PySem.W.codeIn K cd20 "_law_doors_right" = true) (k20 : PySem.W.keepIn K (.ref f20) = true)
    (a21 : PySem.W.nsIn K mainGlobals "law" = some (some (.ref f21))) (l21 : K.lookup f21 = some ⟨oc21, od21, .func (PySem.W.fnOf "law" "law" (defArgs s_law) (defBody s_law) (defScope s_law) .none kV21 dc21 pm21 an21 cd21 ct21), sl21⟩) (c21 : PySem.W.codeIn K cd21 "law" = true) (k21 : PySem.W.keepIn K (.ref f21) = true)
    (g_InvalidSide : PySem.W.nsIn K mainGlobals "InvalidSide" = some (some (.ref C_InvalidSide))) (x_InvalidSide : PySem.W.excIn K C_InvalidSide [.type "ValueError", .type "Exception", .type "BaseException", .type "object"] "ValueError.__new__" = true) (k_InvalidSide : PySem.W.keepIn K (.ref C_InvalidSide) = true) (b_InvalidSide : PySem.W.subIn K (.ref C_InvalidSide) (.type "BaseException") = some true) (t_InvalidSide : PySem.W.typeIn K (.ref C_InvalidSide) = some (.type "type"))
    (g_InvalidValue : PySem.W.nsIn K mainGlobals "InvalidValue" = some (some (.ref C_InvalidValue))) (x_InvalidValue : PySem.W.excIn K C_InvalidValue [.type "ValueError", .type "Exception", .type "BaseException", .type "object"] "ValueError.__new__" = true) (k_InvalidValue : PySem.W.keepIn K (.ref C_InvalidValue) = true) (b_InvalidValue : PySem.W.subIn K (.ref C_InvalidValue) (.type "BaseException") = some true) (t_InvalidValue : PySem.W.typeIn K (.ref C_InvalidValue) = some (.type "type"))
    (g_HandedError : PySem.W.nsIn K mainGlobals "HandedError" = some (some (.ref C_HandedError))) (b_HandedError : PySem.W.subIn K (.ref C_HandedError) (.type "BaseException") = some true) (t_HandedError : PySem.W.typeIn K (.ref C_HandedError) = some (.type "type"))
    (g_InvalidSides : PySem.W.nsIn K mainGlobals "InvalidSides" = some (some (.ref C_InvalidSides))) (b_InvalidSides : PySem.W.subIn K (.ref C_InvalidSides) (.type "BaseException") = some true) (t_InvalidSides : PySem.W.typeIn K (.ref C_InvalidSides) = some (.type "type"))
    (hd_HandedError : PySem.W.hasDictIn K C_HandedError = true)
    (hs_HandedError : PySem.W.subIn K (.ref C_HandedError) (.ref C_HandedError) = some true)
    (hd_InvalidSide : PySem.W.hasDictIn K C_InvalidSide = true)
    (hs_InvalidSide : PySem.W.subIn K (.ref C_InvalidSide) (.ref C_InvalidSide) = some true)
    (hd_InvalidSides : PySem.W.hasDictIn K C_InvalidSides = true)
    (hs_InvalidSides : PySem.W.subIn K (.ref C_InvalidSides) (.ref C_InvalidSides) = some true)
    (hd_InvalidValue : PySem.W.hasDictIn K C_InvalidValue = true)
    (hs_InvalidValue : PySem.W.subIn K (.ref C_InvalidValue) (.ref C_InvalidValue) = some true)
    (xn : PySem.W.specialIn K (.builtin "object.__class__") "__get__" = some (some (.builtin "getset_descriptor.__get__")))
    (xt : PySem.W.takesIn K (.builtin "object.__class__") = some true)
    (xg_InvalidSide : PySem.W.findIn K (.ref C_InvalidSide) "__getattribute__" = some (some (.builtin "BaseException.__getattribute__")))
    (xk_InvalidSide : PySem.W.findIn K (.ref C_InvalidSide) "__getattr__" = some none)
    (xa_InvalidSide : PySem.W.findIn K (.ref C_InvalidSide) "__class__" = some (some (.builtin "object.__class__")))
    (xm_InvalidSide : PySem.W.mroIn K C_InvalidSide (.type "object") = some true)
    (xg_InvalidValue : PySem.W.findIn K (.ref C_InvalidValue) "__getattribute__" = some (some (.builtin "BaseException.__getattribute__")))
    (xk_InvalidValue : PySem.W.findIn K (.ref C_InvalidValue) "__getattr__" = some none)
    (xa_InvalidValue : PySem.W.findIn K (.ref C_InvalidValue) "__class__" = some (some (.builtin "object.__class__")))
    (xm_InvalidValue : PySem.W.mroIn K C_InvalidValue (.type "object") = some true)
    (p_InvalidSide_HandedError : PySem.W.subIn K (.ref C_InvalidSide) (.ref C_HandedError) = some true)
    (p_InvalidSide_InvalidSide : PySem.W.subIn K (.ref C_InvalidSide) (.ref C_InvalidSide) = some true)
    (p_InvalidSide_InvalidSides : PySem.W.subIn K (.ref C_InvalidSide) (.ref C_InvalidSides) = some false)
    (p_InvalidSide_InvalidValue : PySem.W.subIn K (.ref C_InvalidSide) (.ref C_InvalidValue) = some false)
    (p_InvalidSide_ValueError : PySem.W.subIn K (.ref C_InvalidSide) (.type "ValueError") = some true)
    (p_InvalidValue_HandedError : PySem.W.subIn K (.ref C_InvalidValue) (.ref C_HandedError) = some true)
    (p_InvalidValue_InvalidSide : PySem.W.subIn K (.ref C_InvalidValue) (.ref C_InvalidSide) = some false)
    (p_InvalidValue_InvalidSides : PySem.W.subIn K (.ref C_InvalidValue) (.ref C_InvalidSides) = some false)
    (p_InvalidValue_InvalidValue : PySem.W.subIn K (.ref C_InvalidValue) (.ref C_InvalidValue) = some true)
    (p_InvalidValue_ValueError : PySem.W.subIn K (.ref C_InvalidValue) (.type "ValueError") = some true)
    (v_GREATEST_OFFSET : PySem.W.nsIn K mainGlobals "GREATEST_OFFSET" = some (some (.int 10000000000000000000000000000000000000000 t_GREATEST_OFFSET)))
    (v_GREATEST_STEP : PySem.W.nsIn K mainGlobals "GREATEST_STEP" = some (some (.int 1000000000000000000000000000000 t_GREATEST_STEP)))
    (v_MODES : PySem.W.nsIn K mainGlobals "MODES" = some (some (.ref A_MODES))) (w_MODES : K.lookup A_MODES = some o_MODES) (d_MODES : o_MODES.cls = .type "tuple") (q_MODES : o_MODES.data = .seq i_MODES n_MODES) (r_MODES : i_MODES.toList.map absV = [some (.str "down"), some (.str "up"), some (.str "half_down"), some (.str "half_up"), some (.str "half_even")])
    (v_TRIED : PySem.W.nsIn K mainGlobals "TRIED" = some (some (.int 8 t_TRIED)))
    (z_ValueError : PySem.W.nsIn K mainGlobals "ValueError" = some none)
    (z_abs : PySem.W.nsIn K mainGlobals "abs" = some none)
    (z_bool : PySem.W.nsIn K mainGlobals "bool" = some none)
    (z_int : PySem.W.nsIn K mainGlobals "int" = some none)
    (z_isinstance : PySem.W.nsIn K mainGlobals "isinstance" = some none)
    (z_len : PySem.W.nsIn K mainGlobals "len" = some none)
    (z_max : PySem.W.nsIn K mainGlobals "max" = some none)
    (z_min : PySem.W.nsIn K mainGlobals "min" = some none)
    (z_range : PySem.W.nsIn K mainGlobals "range" = some none)
    (z_str : PySem.W.nsIn K mainGlobals "str" = some none)
    (z_tuple : PySem.W.nsIn K mainGlobals "tuple" = some none) :
    ∃ T : Txt K mg, T.a_law = f21 ∧ T.d_law = PySem.W.fnOf "law" "law" (defArgs s_law) (defBody s_law) (defScope s_law) .none kV21 dc21 pm21 an21 cd21 ct21 := by
  have F0 := fun_mk (st := s_is_integer) l0 c0 k0
  have b0 := F0.binds (ps := ["value"]) fun _ _ _ _ _ _ us hl => match us, hl with | [_], _ => rfl
  have F1 := fun_mk (st := s_is_side) l1 c1 k1
  have b1 := F1.binds (ps := ["value"]) fun _ _ _ _ _ _ us hl => match us, hl with | [_], _ => rfl
  have F2 := fun_mk (st := s_check_side) l2 c2 k2
  have b2 := F2.binds (ps := ["side"]) fun _ _ _ _ _ _ us hl => match us, hl with | [_], _ => rfl
  have F3 := fun_mk (st := s_check_value) l3 c3 k3
  have b3 := F3.binds (ps := ["value"]) fun _ _ _ _ _ _ us hl => match us, hl with | [_], _ => rfl
  have F4 := fun_mk (st := s_threshold) l4 c4 k4
  have b4 := F4.binds (ps := ["side", "figure"]) fun _ _ _ _ _ _ us hl => match us, hl with | [_, _], _ => rfl
  have F5 := fun_mk (st := s_figure_for) l5 c5 k5
  have b5 := F5.binds (ps := ["side", "value"]) fun _ _ _ _ _ _ us hl => match us, hl with | [_, _], _ => rfl
  have F6 := fun_mk (st := s_least_for) l6 c6 k6
  have b6 := F6.binds (ps := ["side", "value"]) fun _ _ _ _ _ _ us hl => match us, hl with | [_, _], _ => rfl
  have F7 := fun_mk (st := s_parted_in) l7 c7 k7
  have b7 := F7.binds (ps := ["fine", "coarse", "figure", "value"]) fun _ _ _ _ _ _ us hl => match us, hl with | [_, _, _, _], _ => rfl
  have F8 := fun_mk (st := s_exchange) l8 c8 k8
  have b8 := F8.binds (ps := ["first", "second", "value"]) fun _ _ _ _ _ _ us hl => match us, hl with | [_, _, _], _ => rfl
  have F9 := fun_mk (st := s_law_source) l9 c9 k9
  have b9 := F9.binds (ps := ["_law_script"]) fun _ _ _ _ _ _ us hl => match us, hl with | [_], _ => rfl
  have F10 := fun_mk (st := s_law_draw) l10 c10 k10
  have b10 := F10.binds (ps := ["_law_source_here", "_law_limit"]) fun _ _ _ _ _ _ us hl => match us, hl with | [_, _], _ => rfl
  have F11 := fun_mk (st := s_law_pick) l11 c11 k11
  have b11 := F11.binds (ps := ["_law_source_here", "_law_values"]) fun _ _ _ _ _ _ us hl => match us, hl with | [_, _], _ => rfl
  have F12 := fun_mk (st := s_law_great) l12 c12 k12
  have b12 := F12.binds (ps := ["_law_source_here", "_law_limit"]) fun _ _ _ _ _ _ us hl => match us, hl with | [_, _], _ => rfl
  have F13 := fun_mk (st := s_law_ten) l13 c13 k13
  have b13 := F13.binds (ps := ["_law_many"]) fun _ _ _ _ _ _ us hl => match us, hl with | [_], _ => rfl
  have F14 := fun_mk (st := s_law_step) l14 c14 k14
  have b14 := F14.binds (ps := ["_law_source_here", "_law_most"]) fun _ _ _ _ _ _ us hl => match us, hl with | [_, _], _ => rfl
  have F15 := fun_mk (st := s_law_side) l15 c15 k15
  have b15 := F15.binds (ps := ["_law_source_here", "_law_most"]) fun _ _ _ _ _ _ us hl => match us, hl with | [_, _], _ => rfl
  have F16 := fun_mk (st := s_law_written) l16 c16 k16
  have b16 := F16.binds (ps := ["_law_side_here", "_law_value"]) fun _ _ _ _ _ _ us hl => match us, hl with | [_, _], _ => rfl
  have F17 := fun_mk (st := s_law_two) l17 c17 k17
  have b17 := F17.binds (ps := ["_law_source_here"]) fun _ _ _ _ _ _ us hl => match us, hl with | [_], _ => rfl
  have F18 := fun_mk (st := s_law_differs) l18 c18 k18
  have b18 := F18.binds (ps := ["_law_one", "_law_other", "_law_value"]) fun _ _ _ _ _ _ us hl => match us, hl with | [_, _, _], _ => rfl
  have F19 := fun_mk (st := s_law_word) l19 c19 k19
  have b19 := F19.binds (ps := ["_law_one", "_law_other", "_law_value"]) fun _ _ _ _ _ _ us hl => match us, hl with | [_, _, _], _ => rfl
  have F20 := fun_mk (st := s_law_doors_right) l20 c20 k20
  have b20 := F20.binds (ps := ["_law_good"]) fun _ _ _ _ _ _ us hl => match us, hl with | [_], _ => rfl
  have F21 := fun_mk (st := s_law) l21 c21 k21
  have b21 := F21.binds (ps := ["_law_script"]) fun _ _ _ _ _ _ us hl => match us, hl with | [_], _ => rfl
  have xc_InvalidSide : ExcC K C_InvalidSide := ⟨xg_InvalidSide, xk_InvalidSide, b_InvalidSide, hd_InvalidSide, xa_InvalidSide, xn, xt, xm_InvalidSide⟩
  have xc_InvalidValue : ExcC K C_InvalidValue := ⟨xg_InvalidValue, xk_InvalidValue, b_InvalidValue, hd_InvalidValue, xa_InvalidValue, xn, xt, xm_InvalidValue⟩
  exact ⟨{ a_is_integer := _, d_is_integer := _, f_is_integer := ⟨F0, PySem.W.mg_of X G a0, b0⟩, a_is_side := _, d_is_side := _, f_is_side := ⟨F1, PySem.W.mg_of X G a1, b1⟩, a_check_side := _, d_check_side := _, f_check_side := ⟨F2, PySem.W.mg_of X G a2, b2⟩, a_check_value := _, d_check_value := _, f_check_value := ⟨F3, PySem.W.mg_of X G a3, b3⟩, a_threshold := _, d_threshold := _, f_threshold := ⟨F4, PySem.W.mg_of X G a4, b4⟩, a_figure_for := _, d_figure_for := _, f_figure_for := ⟨F5, PySem.W.mg_of X G a5, b5⟩, a_least_for := _, d_least_for := _, f_least_for := ⟨F6, PySem.W.mg_of X G a6, b6⟩, a_parted_in := _, d_parted_in := _, f_parted_in := ⟨F7, PySem.W.mg_of X G a7, b7⟩, a_exchange := _, d_exchange := _, f_exchange := ⟨F8, PySem.W.mg_of X G a8, b8⟩, a_law_source := _, d_law_source := _, f_law_source := ⟨F9, PySem.W.mg_of X G a9, b9⟩, a_law_draw := _, d_law_draw := _, f_law_draw := ⟨F10, PySem.W.mg_of X G a10, b10⟩, a_law_pick := _, d_law_pick := _, f_law_pick := ⟨F11, PySem.W.mg_of X G a11, b11⟩, a_law_great := _, d_law_great := _, f_law_great := ⟨F12, PySem.W.mg_of X G a12, b12⟩, a_law_ten := _, d_law_ten := _, f_law_ten := ⟨F13, PySem.W.mg_of X G a13, b13⟩, a_law_step := _, d_law_step := _, f_law_step := ⟨F14, PySem.W.mg_of X G a14, b14⟩, a_law_side := _, d_law_side := _, f_law_side := ⟨F15, PySem.W.mg_of X G a15, b15⟩, a_law_written := _, d_law_written := _, f_law_written := ⟨F16, PySem.W.mg_of X G a16, b16⟩, a_law_two := _, d_law_two := _, f_law_two := ⟨F17, PySem.W.mg_of X G a17, b17⟩, a_law_differs := _, d_law_differs := _, f_law_differs := ⟨F18, PySem.W.mg_of X G a18, b18⟩, a_law_word := _, d_law_word := _, f_law_word := ⟨F19, PySem.W.mg_of X G a19, b19⟩, a_law_doors_right := _, d_law_doors_right := _, f_law_doors_right := ⟨F20, PySem.W.mg_of X G a20, b20⟩, a_law := _, d_law := _, f_law := ⟨F21, PySem.W.mg_of X G a21, b21⟩, ct := fun x => if x = "InvalidSide" then some C_InvalidSide else if x = "InvalidValue" then some C_InvalidValue else none, c_HandedError := C_HandedError, c_InvalidSides := C_InvalidSides, o_HandedError := PySem.W.mg_of X G g_HandedError, o_InvalidSide := PySem.W.mg_of X G g_InvalidSide, o_InvalidSides := PySem.W.mg_of X G g_InvalidSides, o_InvalidValue := PySem.W.mg_of X G g_InvalidValue, i_InvalidSide := fun c C q => (by
      by_cases hc : c = "InvalidSide"
      · rw [if_pos hc] at q; subst hc; cases q; exact ⟨xc_InvalidSide, (kit_own hd_InvalidSide t_InvalidSide hs_InvalidSide p_InvalidSide_InvalidSide).trans (congrArg some (by simp))⟩
      · rw [if_neg hc] at q; exact (by
      by_cases hc : c = "InvalidValue"
      · rw [if_pos hc] at q; subst hc; cases q; exact ⟨xc_InvalidValue, (kit_own hd_InvalidSide t_InvalidSide hs_InvalidSide p_InvalidValue_InvalidSide).trans (congrArg some (by simp))⟩
      · rw [if_neg hc] at q; exact nomatch q)), i_InvalidSides := fun c C q => (by
      by_cases hc : c = "InvalidSide"
      · rw [if_pos hc] at q; subst hc; cases q; exact ⟨xc_InvalidSide, (kit_own hd_InvalidSides t_InvalidSides hs_InvalidSides p_InvalidSide_InvalidSides).trans (congrArg some (by simp))⟩
      · rw [if_neg hc] at q; exact (by
      by_cases hc : c = "InvalidValue"
      · rw [if_pos hc] at q; subst hc; cases q; exact ⟨xc_InvalidValue, (kit_own hd_InvalidSides t_InvalidSides hs_InvalidSides p_InvalidValue_InvalidSides).trans (congrArg some (by simp))⟩
      · rw [if_neg hc] at q; exact nomatch q)), i_InvalidValue := fun c C q => (by
      by_cases hc : c = "InvalidSide"
      · rw [if_pos hc] at q; subst hc; cases q; exact ⟨xc_InvalidSide, (kit_own hd_InvalidValue t_InvalidValue hs_InvalidValue p_InvalidSide_InvalidValue).trans (congrArg some (by simp))⟩
      · rw [if_neg hc] at q; exact (by
      by_cases hc : c = "InvalidValue"
      · rw [if_pos hc] at q; subst hc; cases q; exact ⟨xc_InvalidValue, (kit_own hd_InvalidValue t_InvalidValue hs_InvalidValue p_InvalidValue_InvalidValue).trans (congrArg some (by simp))⟩
      · rw [if_neg hc] at q; exact nomatch q)), i_ValueError := fun c C q => (by
      by_cases hc : c = "InvalidSide"
      · rw [if_pos hc] at q; subst hc; cases q; exact ⟨xc_InvalidSide, (kit_type (by decide) p_InvalidSide_ValueError).trans (congrArg some (by simp))⟩
      · rw [if_neg hc] at q; exact (by
      by_cases hc : c = "InvalidValue"
      · rw [if_pos hc] at q; subst hc; cases q; exact ⟨xc_InvalidValue, (kit_type (by decide) p_InvalidValue_ValueError).trans (congrArg some (by simp))⟩
      · rw [if_neg hc] at q; exact nomatch q)), h_HandedError := fun c C q => (by
      by_cases hc : c = "InvalidSide"
      · rw [if_pos hc] at q; subst hc; cases q; exact PySem.W.exm_ref b_HandedError hd_HandedError t_HandedError p_InvalidSide_HandedError
      · rw [if_neg hc] at q; exact (by
      by_cases hc : c = "InvalidValue"
      · rw [if_pos hc] at q; subst hc; cases q; exact PySem.W.exm_ref b_HandedError hd_HandedError t_HandedError p_InvalidValue_HandedError
      · rw [if_neg hc] at q; exact nomatch q)), c_InvalidSide := C_InvalidSide, e_InvalidSide := ⟨by first | rfl | (simp; done) | decide, PySem.W.mg_of X G g_InvalidSide, x_InvalidSide, k_InvalidSide, b_InvalidSide, t_InvalidSide⟩, c_InvalidValue := C_InvalidValue, e_InvalidValue := ⟨by first | rfl | (simp; done) | decide, PySem.W.mg_of X G g_InvalidValue, x_InvalidValue, k_InvalidValue, b_InvalidValue, t_InvalidValue⟩, y_GREATEST_OFFSET := ⟨t_GREATEST_OFFSET, PySem.W.mg_of X G v_GREATEST_OFFSET⟩, y_GREATEST_STEP := ⟨t_GREATEST_STEP, PySem.W.mg_of X G v_GREATEST_STEP⟩, y_MODES := ⟨A_MODES, PySem.W.mg_of X G v_MODES, wr_of w_MODES d_MODES q_MODES r_MODES⟩, y_TRIED := ⟨t_TRIED, PySem.W.mg_of X G v_TRIED⟩, n_ValueError := PySem.W.mg_none_of X G z_ValueError, n_abs := PySem.W.mg_none_of X G z_abs, n_bool := PySem.W.mg_none_of X G z_bool, n_int := PySem.W.mg_none_of X G z_int, n_isinstance := PySem.W.mg_none_of X G z_isinstance, n_len := PySem.W.mg_none_of X G z_len, n_max := PySem.W.mg_none_of X G z_max, n_min := PySem.W.mg_none_of X G z_min, n_range := PySem.W.mg_none_of X G z_range, n_str := PySem.W.mg_none_of X G z_str, n_tuple := PySem.W.mg_none_of X G z_tuple }, rfl, rfl⟩
theorem all_mk {l : PySem.W.OpenLaw} {w : World} {K : PySem.W.Frag} {h : Heap} {mg : Str → Option Value} {fa : Addr} (X : K.In h) (G : h.Ns mainGlobals mg) (hfa : mg "law" = some (.ref fa))
    {f0 : Addr} {od0 an0 : Option Addr} {sl0 : Array (Option Value)} {oc0 kV0 dc0 pm0 cd0 ct0 : Value}
    {f1 : Addr} {od1 an1 : Option Addr} {sl1 : Array (Option Value)} {oc1 kV1 dc1 pm1 cd1 ct1 : Value}
    {f2 : Addr} {od2 an2 : Option Addr} {sl2 : Array (Option Value)} {oc2 kV2 dc2 pm2 cd2 ct2 : Value}
    {f3 : Addr} {od3 an3 : Option Addr} {sl3 : Array (Option Value)} {oc3 kV3 dc3 pm3 cd3 ct3 : Value}
    {f4 : Addr} {od4 an4 : Option Addr} {sl4 : Array (Option Value)} {oc4 kV4 dc4 pm4 cd4 ct4 : Value}
    {f5 : Addr} {od5 an5 : Option Addr} {sl5 : Array (Option Value)} {oc5 kV5 dc5 pm5 cd5 ct5 : Value}
    {f6 : Addr} {od6 an6 : Option Addr} {sl6 : Array (Option Value)} {oc6 kV6 dc6 pm6 cd6 ct6 : Value}
    {f7 : Addr} {od7 an7 : Option Addr} {sl7 : Array (Option Value)} {oc7 kV7 dc7 pm7 cd7 ct7 : Value}
    {f8 : Addr} {od8 an8 : Option Addr} {sl8 : Array (Option Value)} {oc8 kV8 dc8 pm8 cd8 ct8 : Value}
    {f9 : Addr} {od9 an9 : Option Addr} {sl9 : Array (Option Value)} {oc9 kV9 dc9 pm9 cd9 ct9 : Value}
    {f10 : Addr} {od10 an10 : Option Addr} {sl10 : Array (Option Value)} {oc10 kV10 dc10 pm10 cd10 ct10 : Value}
    {f11 : Addr} {od11 an11 : Option Addr} {sl11 : Array (Option Value)} {oc11 kV11 dc11 pm11 cd11 ct11 : Value}
    {f12 : Addr} {od12 an12 : Option Addr} {sl12 : Array (Option Value)} {oc12 kV12 dc12 pm12 cd12 ct12 : Value}
    {f13 : Addr} {od13 an13 : Option Addr} {sl13 : Array (Option Value)} {oc13 kV13 dc13 pm13 cd13 ct13 : Value}
    {f14 : Addr} {od14 an14 : Option Addr} {sl14 : Array (Option Value)} {oc14 kV14 dc14 pm14 cd14 ct14 : Value}
    {f15 : Addr} {od15 an15 : Option Addr} {sl15 : Array (Option Value)} {oc15 kV15 dc15 pm15 cd15 ct15 : Value}
    {f16 : Addr} {od16 an16 : Option Addr} {sl16 : Array (Option Value)} {oc16 kV16 dc16 pm16 cd16 ct16 : Value}
    {f17 : Addr} {od17 an17 : Option Addr} {sl17 : Array (Option Value)} {oc17 kV17 dc17 pm17 cd17 ct17 : Value}
    {f18 : Addr} {od18 an18 : Option Addr} {sl18 : Array (Option Value)} {oc18 kV18 dc18 pm18 cd18 ct18 : Value}
    {f19 : Addr} {od19 an19 : Option Addr} {sl19 : Array (Option Value)} {oc19 kV19 dc19 pm19 cd19 ct19 : Value}
    {f20 : Addr} {od20 an20 : Option Addr} {sl20 : Array (Option Value)} {oc20 kV20 dc20 pm20 cd20 ct20 : Value}
    {f21 : Addr} {od21 an21 : Option Addr} {sl21 : Array (Option Value)} {oc21 kV21 dc21 pm21 cd21 ct21 : Value}
    {C_InvalidSide : Addr}
    {C_InvalidValue : Addr}
    {C_HandedError : Addr}
    {C_InvalidSides : Addr}
    {t_GREATEST_OFFSET : Tok}
    {t_GREATEST_STEP : Tok}
    {A_MODES : Addr} {o_MODES : Obj} {i_MODES : Array Value} {n_MODES : Nat}
    {t_TRIED : Tok}
    (a0 : PySem.W.nsIn K mainGlobals "is_integer" = some (some (.ref f0))) (l0 : K.lookup f0 = some ⟨oc0, od0, .func (PySem.W.fnOf "is_integer" "is_integer" (defArgs s_is_integer) (defBody s_is_integer) (defScope s_is_integer) .none kV0 dc0 pm0 an0 cd0 ct0), sl0⟩) (c0 : PySem.W.codeIn K cd0 "is_integer" = true) (k0 : PySem.W.keepIn K (.ref f0) = true)
    (a1 : PySem.W.nsIn K mainGlobals "is_side" = some (some (.ref f1))) (l1 : K.lookup f1 = some ⟨oc1, od1, .func (PySem.W.fnOf "is_side" "is_side" (defArgs s_is_side) (defBody s_is_side) (defScope s_is_side) .none kV1 dc1 pm1 an1 cd1 ct1), sl1⟩) (c1 : PySem.W.codeIn K cd1 "is_side" = true) (k1 : PySem.W.keepIn K (.ref f1) = true)
    (a2 : PySem.W.nsIn K mainGlobals "check_side" = some (some (.ref f2))) (l2 : K.lookup f2 = some ⟨oc2, od2, .func (PySem.W.fnOf "check_side" "check_side" (defArgs s_check_side) (defBody s_check_side) (defScope s_check_side) .none kV2 dc2 pm2 an2 cd2 ct2), sl2⟩) (c2 : PySem.W.codeIn K cd2 "check_side" = true) (k2 : PySem.W.keepIn K (.ref f2) = true)
    (a3 : PySem.W.nsIn K mainGlobals "check_value" = some (some (.ref f3))) (l3 : K.lookup f3 = some ⟨oc3, od3, .func (PySem.W.fnOf "check_value" "check_value" (defArgs s_check_value) (defBody s_check_value) (defScope s_check_value) .none kV3 dc3 pm3 an3 cd3 ct3), sl3⟩) (c3 : PySem.W.codeIn K cd3 "check_value" = true) (k3 : PySem.W.keepIn K (.ref f3) = true)
    (a4 : PySem.W.nsIn K mainGlobals "threshold" = some (some (.ref f4))) (l4 : K.lookup f4 = some ⟨oc4, od4, .func (PySem.W.fnOf "threshold" "threshold" (defArgs s_threshold) (defBody s_threshold) (defScope s_threshold) .none kV4 dc4 pm4 an4 cd4 ct4), sl4⟩) (c4 : PySem.W.codeIn K cd4 "threshold" = true) (k4 : PySem.W.keepIn K (.ref f4) = true)
    (a5 : PySem.W.nsIn K mainGlobals "figure_for" = some (some (.ref f5))) (l5 : K.lookup f5 = some ⟨oc5, od5, .func (PySem.W.fnOf "figure_for" "figure_for" (defArgs s_figure_for) (defBody s_figure_for) (defScope s_figure_for) .none kV5 dc5 pm5 an5 cd5 ct5), sl5⟩) (c5 : PySem.W.codeIn K cd5 "figure_for" = true) (k5 : PySem.W.keepIn K (.ref f5) = true)
    (a6 : PySem.W.nsIn K mainGlobals "least_for" = some (some (.ref f6))) (l6 : K.lookup f6 = some ⟨oc6, od6, .func (PySem.W.fnOf "least_for" "least_for" (defArgs s_least_for) (defBody s_least_for) (defScope s_least_for) .none kV6 dc6 pm6 an6 cd6 ct6), sl6⟩) (c6 : PySem.W.codeIn K cd6 "least_for" = true) (k6 : PySem.W.keepIn K (.ref f6) = true)
    (a7 : PySem.W.nsIn K mainGlobals "parted_in" = some (some (.ref f7))) (l7 : K.lookup f7 = some ⟨oc7, od7, .func (PySem.W.fnOf "parted_in" "parted_in" (defArgs s_parted_in) (defBody s_parted_in) (defScope s_parted_in) .none kV7 dc7 pm7 an7 cd7 ct7), sl7⟩) (c7 : PySem.W.codeIn K cd7 "parted_in" = true) (k7 : PySem.W.keepIn K (.ref f7) = true)
    (a8 : PySem.W.nsIn K mainGlobals "exchange" = some (some (.ref f8))) (l8 : K.lookup f8 = some ⟨oc8, od8, .func (PySem.W.fnOf "exchange" "exchange" (defArgs s_exchange) (defBody s_exchange) (defScope s_exchange) .none kV8 dc8 pm8 an8 cd8 ct8), sl8⟩) (c8 : PySem.W.codeIn K cd8 "exchange" = true) (k8 : PySem.W.keepIn K (.ref f8) = true)
    (a9 : PySem.W.nsIn K mainGlobals "_law_source" = some (some (.ref f9))) (l9 : K.lookup f9 = some ⟨oc9, od9, .func (PySem.W.fnOf "_law_source" "_law_source" (defArgs s_law_source) (defBody s_law_source) (defScope s_law_source) .none kV9 dc9 pm9 an9 cd9 ct9), sl9⟩) (c9 : PySem.W.codeIn K cd9 "_law_source" = true) (k9 : PySem.W.keepIn K (.ref f9) = true)
    (a10 : PySem.W.nsIn K mainGlobals "_law_draw" = some (some (.ref f10))) (l10 : K.lookup f10 = some ⟨oc10, od10, .func (PySem.W.fnOf "_law_draw" "_law_draw" (defArgs s_law_draw) (defBody s_law_draw) (defScope s_law_draw) .none kV10 dc10 pm10 an10 cd10 ct10), sl10⟩) (c10 : PySem.W.codeIn K cd10 "_law_draw" = true) (k10 : PySem.W.keepIn K (.ref f10) = true)
    (a11 : PySem.W.nsIn K mainGlobals "_law_pick" = some (some (.ref f11))) (l11 : K.lookup f11 = some ⟨oc11, od11, .func (PySem.W.fnOf "_law_pick" "_law_pick" (defArgs s_law_pick) (defBody s_law_pick) (defScope s_law_pick) .none kV11 dc11 pm11 an11 cd11 ct11), sl11⟩) (c11 : PySem.W.codeIn K cd11 "_law_pick" = true) (k11 : PySem.W.keepIn K (.ref f11) = true)
    (a12 : PySem.W.nsIn K mainGlobals "_law_great" = some (some (.ref f12))) (l12 : K.lookup f12 = some ⟨oc12, od12, .func (PySem.W.fnOf "_law_great" "_law_great" (defArgs s_law_great) (defBody s_law_great) (defScope s_law_great) .none kV12 dc12 pm12 an12 cd12 ct12), sl12⟩) (c12 : PySem.W.codeIn K cd12 "_law_great" = true) (k12 : PySem.W.keepIn K (.ref f12) = true)
    (a13 : PySem.W.nsIn K mainGlobals "_law_ten" = some (some (.ref f13))) (l13 : K.lookup f13 = some ⟨oc13, od13, .func (PySem.W.fnOf "_law_ten" "_law_ten" (defArgs s_law_ten) (defBody s_law_ten) (defScope s_law_ten) .none kV13 dc13 pm13 an13 cd13 ct13), sl13⟩) (c13 : PySem.W.codeIn K cd13 "_law_ten" = true) (k13 : PySem.W.keepIn K (.ref f13) = true)
    (a14 : PySem.W.nsIn K mainGlobals "_law_step" = some (some (.ref f14))) (l14 : K.lookup f14 = some ⟨oc14, od14, .func (PySem.W.fnOf "_law_step" "_law_step" (defArgs s_law_step) (defBody s_law_step) (defScope s_law_step) .none kV14 dc14 pm14 an14 cd14 ct14), sl14⟩) (c14 : PySem.W.codeIn K cd14 "_law_step" = true) (k14 : PySem.W.keepIn K (.ref f14) = true)
    (a15 : PySem.W.nsIn K mainGlobals "_law_side" = some (some (.ref f15))) (l15 : K.lookup f15 = some ⟨oc15, od15, .func (PySem.W.fnOf "_law_side" "_law_side" (defArgs s_law_side) (defBody s_law_side) (defScope s_law_side) .none kV15 dc15 pm15 an15 cd15 ct15), sl15⟩) (c15 : PySem.W.codeIn K cd15 "_law_side" = true) (k15 : PySem.W.keepIn K (.ref f15) = true)
    (a16 : PySem.W.nsIn K mainGlobals "_law_written" = some (some (.ref f16))) (l16 : K.lookup f16 = some ⟨oc16, od16, .func (PySem.W.fnOf "_law_written" "_law_written" (defArgs s_law_written) (defBody s_law_written) (defScope s_law_written) .none kV16 dc16 pm16 an16 cd16 ct16), sl16⟩) (c16 : PySem.W.codeIn K cd16 "_law_written" = true) (k16 : PySem.W.keepIn K (.ref f16) = true)
    (a17 : PySem.W.nsIn K mainGlobals "_law_two" = some (some (.ref f17))) (l17 : K.lookup f17 = some ⟨oc17, od17, .func (PySem.W.fnOf "_law_two" "_law_two" (defArgs s_law_two) (defBody s_law_two) (defScope s_law_two) .none kV17 dc17 pm17 an17 cd17 ct17), sl17⟩) (c17 : PySem.W.codeIn K cd17 "_law_two" = true) (k17 : PySem.W.keepIn K (.ref f17) = true)
    (a18 : PySem.W.nsIn K mainGlobals "_law_differs" = some (some (.ref f18))) (l18 : K.lookup f18 = some ⟨oc18, od18, .func (PySem.W.fnOf "_law_differs" "_law_differs" (defArgs s_law_differs) (defBody s_law_differs) (defScope s_law_differs) .none kV18 dc18 pm18 an18 cd18 ct18), sl18⟩) (c18 : PySem.W.codeIn K cd18 "_law_differs" = true) (k18 : PySem.W.keepIn K (.ref f18) = true)
    (a19 : PySem.W.nsIn K mainGlobals "_law_word" = some (some (.ref f19))) (l19 : K.lookup f19 = some ⟨oc19, od19, .func (PySem.W.fnOf "_law_word" "_law_word" (defArgs s_law_word) (defBody s_law_word) (defScope s_law_word) .none kV19 dc19 pm19 an19 cd19 ct19), sl19⟩) (c19 : PySem.W.codeIn K cd19 "_law_word" = true) (k19 : PySem.W.keepIn K (.ref f19) = true)
    (a20 : PySem.W.nsIn K mainGlobals "_law_doors_right" = some (some (.ref f20))) (l20 : K.lookup f20 = some ⟨oc20, od20, .func (PySem.W.fnOf "_law_doors_right" "_law_doors_right" (defArgs s_law_doors_right) (defBody s_law_doors_right) (defScope s_law_doors_right) .none kV20 dc20 pm20 an20 cd20 ct20), sl20⟩) (c20 : PySem.W.codeIn K cd20 "_law_doors_right" = true) (k20 : PySem.W.keepIn K (.ref f20) = true)
    (a21 : PySem.W.nsIn K mainGlobals "law" = some (some (.ref f21))) (l21 : K.lookup f21 = some ⟨oc21, od21, .func (PySem.W.fnOf "law" "law" (defArgs s_law) (defBody s_law) (defScope s_law) .none kV21 dc21 pm21 an21 cd21 ct21), sl21⟩) (c21 : PySem.W.codeIn K cd21 "law" = true) (k21 : PySem.W.keepIn K (.ref f21) = true)
    (g_InvalidSide : PySem.W.nsIn K mainGlobals "InvalidSide" = some (some (.ref C_InvalidSide))) (x_InvalidSide : PySem.W.excIn K C_InvalidSide [.type "ValueError", .type "Exception", .type "BaseException", .type "object"] "ValueError.__new__" = true) (k_InvalidSide : PySem.W.keepIn K (.ref C_InvalidSide) = true) (b_InvalidSide : PySem.W.subIn K (.ref C_InvalidSide) (.type "BaseException") = some true) (t_InvalidSide : PySem.W.typeIn K (.ref C_InvalidSide) = some (.type "type"))
    (g_InvalidValue : PySem.W.nsIn K mainGlobals "InvalidValue" = some (some (.ref C_InvalidValue))) (x_InvalidValue : PySem.W.excIn K C_InvalidValue [.type "ValueError", .type "Exception", .type "BaseException", .type "object"] "ValueError.__new__" = true) (k_InvalidValue : PySem.W.keepIn K (.ref C_InvalidValue) = true) (b_InvalidValue : PySem.W.subIn K (.ref C_InvalidValue) (.type "BaseException") = some true) (t_InvalidValue : PySem.W.typeIn K (.ref C_InvalidValue) = some (.type "type"))
    (g_HandedError : PySem.W.nsIn K mainGlobals "HandedError" = some (some (.ref C_HandedError))) (b_HandedError : PySem.W.subIn K (.ref C_HandedError) (.type "BaseException") = some true) (t_HandedError : PySem.W.typeIn K (.ref C_HandedError) = some (.type "type"))
    (g_InvalidSides : PySem.W.nsIn K mainGlobals "InvalidSides" = some (some (.ref C_InvalidSides))) (b_InvalidSides : PySem.W.subIn K (.ref C_InvalidSides) (.type "BaseException") = some true) (t_InvalidSides : PySem.W.typeIn K (.ref C_InvalidSides) = some (.type "type"))
    (hd_HandedError : PySem.W.hasDictIn K C_HandedError = true)
    (hs_HandedError : PySem.W.subIn K (.ref C_HandedError) (.ref C_HandedError) = some true)
    (hd_InvalidSide : PySem.W.hasDictIn K C_InvalidSide = true)
    (hs_InvalidSide : PySem.W.subIn K (.ref C_InvalidSide) (.ref C_InvalidSide) = some true)
    (hd_InvalidSides : PySem.W.hasDictIn K C_InvalidSides = true)
    (hs_InvalidSides : PySem.W.subIn K (.ref C_InvalidSides) (.ref C_InvalidSides) = some true)
    (hd_InvalidValue : PySem.W.hasDictIn K C_InvalidValue = true)
    (hs_InvalidValue : PySem.W.subIn K (.ref C_InvalidValue) (.ref C_InvalidValue) = some true)
    (xn : PySem.W.specialIn K (.builtin "object.__class__") "__get__" = some (some (.builtin "getset_descriptor.__get__")))
    (xt : PySem.W.takesIn K (.builtin "object.__class__") = some true)
    (xg_InvalidSide : PySem.W.findIn K (.ref C_InvalidSide) "__getattribute__" = some (some (.builtin "BaseException.__getattribute__")))
    (xk_InvalidSide : PySem.W.findIn K (.ref C_InvalidSide) "__getattr__" = some none)
    (xa_InvalidSide : PySem.W.findIn K (.ref C_InvalidSide) "__class__" = some (some (.builtin "object.__class__")))
    (xm_InvalidSide : PySem.W.mroIn K C_InvalidSide (.type "object") = some true)
    (xg_InvalidValue : PySem.W.findIn K (.ref C_InvalidValue) "__getattribute__" = some (some (.builtin "BaseException.__getattribute__")))
    (xk_InvalidValue : PySem.W.findIn K (.ref C_InvalidValue) "__getattr__" = some none)
    (xa_InvalidValue : PySem.W.findIn K (.ref C_InvalidValue) "__class__" = some (some (.builtin "object.__class__")))
    (xm_InvalidValue : PySem.W.mroIn K C_InvalidValue (.type "object") = some true)
    (p_InvalidSide_HandedError : PySem.W.subIn K (.ref C_InvalidSide) (.ref C_HandedError) = some true)
    (p_InvalidSide_InvalidSide : PySem.W.subIn K (.ref C_InvalidSide) (.ref C_InvalidSide) = some true)
    (p_InvalidSide_InvalidSides : PySem.W.subIn K (.ref C_InvalidSide) (.ref C_InvalidSides) = some false)
    (p_InvalidSide_InvalidValue : PySem.W.subIn K (.ref C_InvalidSide) (.ref C_InvalidValue) = some false)
    (p_InvalidSide_ValueError : PySem.W.subIn K (.ref C_InvalidSide) (.type "ValueError") = some true)
    (p_InvalidValue_HandedError : PySem.W.subIn K (.ref C_InvalidValue) (.ref C_HandedError) = some true)
    (p_InvalidValue_InvalidSide : PySem.W.subIn K (.ref C_InvalidValue) (.ref C_InvalidSide) = some false)
    (p_InvalidValue_InvalidSides : PySem.W.subIn K (.ref C_InvalidValue) (.ref C_InvalidSides) = some false)
    (p_InvalidValue_InvalidValue : PySem.W.subIn K (.ref C_InvalidValue) (.ref C_InvalidValue) = some true)
    (p_InvalidValue_ValueError : PySem.W.subIn K (.ref C_InvalidValue) (.type "ValueError") = some true)
    (v_GREATEST_OFFSET : PySem.W.nsIn K mainGlobals "GREATEST_OFFSET" = some (some (.int 10000000000000000000000000000000000000000 t_GREATEST_OFFSET)))
    (v_GREATEST_STEP : PySem.W.nsIn K mainGlobals "GREATEST_STEP" = some (some (.int 1000000000000000000000000000000 t_GREATEST_STEP)))
    (v_MODES : PySem.W.nsIn K mainGlobals "MODES" = some (some (.ref A_MODES))) (w_MODES : K.lookup A_MODES = some o_MODES) (d_MODES : o_MODES.cls = .type "tuple") (q_MODES : o_MODES.data = .seq i_MODES n_MODES) (r_MODES : i_MODES.toList.map absV = [some (.str "down"), some (.str "up"), some (.str "half_down"), some (.str "half_up"), some (.str "half_even")])
    (v_TRIED : PySem.W.nsIn K mainGlobals "TRIED" = some (some (.int 8 t_TRIED)))
    (z_ValueError : PySem.W.nsIn K mainGlobals "ValueError" = some none)
    (z_abs : PySem.W.nsIn K mainGlobals "abs" = some none)
    (z_bool : PySem.W.nsIn K mainGlobals "bool" = some none)
    (z_int : PySem.W.nsIn K mainGlobals "int" = some none)
    (z_isinstance : PySem.W.nsIn K mainGlobals "isinstance" = some none)
    (z_len : PySem.W.nsIn K mainGlobals "len" = some none)
    (z_max : PySem.W.nsIn K mainGlobals "max" = some none)
    (z_min : PySem.W.nsIn K mainGlobals "min" = some none)
    (z_range : PySem.W.nsIn K mainGlobals "range" = some none)
    (z_str : PySem.W.nsIn K mainGlobals "str" = some none)
    (z_tuple : PySem.W.nsIn K mainGlobals "tuple" = some none) :
    ∃ fd : FuncData, (∀ (s : Shared) (v : Value), BindsTo s fd ⟨[v], []⟩ [("_law_script", v)]) ∧ ∀ base : Heap, K.In base → base.Ns mainGlobals mg → FnOk l.prog w K mg base (L2.CX l.prog w) 7 fa fd ["_law_script"] (spLaw K 9 m_law) := by
  obtain ⟨T, e1, e2⟩ := txt_mk X G a0 l0 c0 k0 a1 l1 c1 k1 a2 l2 c2 k2 a3 l3 c3 k3 a4 l4 c4 k4 a5 l5 c5 k5 a6 l6 c6 k6 a7 l7 c7 k7 a8 l8 c8 k8 a9 l9 c9 k9 a10 l10 c10 k10 a11 l11 c11 k11 a12 l12 c12 k12 a13 l13 c13 k13 a14 l14 c14 k14 a15 l15 c15 k15 a16 l16 c16 k16 a17 l17 c17 k17 a18 l18 c18 k18 a19 l19 c19 k19 a20 l20 c20 k20 a21 l21 c21 k21 g_InvalidSide x_InvalidSide k_InvalidSide b_InvalidSide t_InvalidSide g_InvalidValue x_InvalidValue k_InvalidValue b_InvalidValue t_InvalidValue g_HandedError b_HandedError t_HandedError g_InvalidSides b_InvalidSides t_InvalidSides hd_HandedError hs_HandedError hd_InvalidSide hs_InvalidSide hd_InvalidSides hs_InvalidSides hd_InvalidValue hs_InvalidValue xn xt xg_InvalidSide xk_InvalidSide xa_InvalidSide xm_InvalidSide xg_InvalidValue xk_InvalidValue xa_InvalidValue xm_InvalidValue p_InvalidSide_HandedError p_InvalidSide_InvalidSide p_InvalidSide_InvalidSides p_InvalidSide_InvalidValue p_InvalidSide_ValueError p_InvalidValue_HandedError p_InvalidValue_InvalidSide p_InvalidValue_InvalidSides p_InvalidValue_InvalidValue p_InvalidValue_ValueError v_GREATEST_OFFSET v_GREATEST_STEP v_MODES w_MODES d_MODES q_MODES r_MODES v_TRIED z_ValueError z_abs z_bool z_int z_isinstance z_len z_max z_min z_range z_str z_tuple
  have e := hfa.symm.trans (PySem.W.mg_of X G a21)
  cases e
  refine ⟨PySem.W.fnOf "law" "law" (defArgs s_law) (defBody s_law) (defScope s_law) .none kV21 dc21 pm21 an21 cd21 ct21, fun s v => .of_eq rfl, fun base _ _ => ?_⟩
  have q := ok_law (P := l.prog) (w := w) (base := base) T
  rw [e1, e2] at q
  exact q
end Hm
set_option Elab.async false
set_option linter.all false
set_option maxRecDepth 100000
set_option maxHeartbeats 4000000
namespace Hm
open PySem L2
/-! ### sides: the mathematics -/
def thr (o s : Int) (m : Str) (k : Int) : Int := if m = "down" then o + s * k else if m = "up" then o + s * k - s + 1 else if m = "half_up" ∨ (m = "half_even" ∧ k % 2 = 0) then o + s * k - s / 2 else o + s * k - (s - 1) / 2
def figf (o s : Int) (m : Str) (v : Int) : Int := if thr o s m ((v - o) / s + 1) ≤ v then (v - o) / s + 1 else (v - o) / s
def hand (o s : Int) (m : Str) (v : Int) : Int := o + s * figf o s m v
@[simp] abbrev sideD (o s : Int) (m : Str) : D := .tup [.int o, .int s, .str m]
def IsMd (m : Str) : Prop := m = "down" ∨ m = "up" ∨ m = "half_down" ∨ m = "half_up" ∨ m = "half_even"
structure SOk (o s : Int) (m : Str) : Prop where
  o1 : -(10 ^ 40) ≤ o
  o2 : o ≤ 10 ^ 40
  s1 : 1 ≤ s
  s2 : s ≤ 10 ^ 30
  md : IsMd m
theorem div_bd {x s b : Int} (hs : 1 ≤ s) (h1 : -b ≤ x) (h2 : x ≤ b) : -b ≤ x / s ∧ x / s ≤ b := by
  have e := Int.mul_ediv_add_emod x s
  have r0 := Int.emod_nonneg x (show s ≠ 0 by omega)
  have r1 := Int.emod_lt_of_pos x (show 0 < s by omega)
  generalize x / s = q at *
  generalize x % s = r at *
  constructor
  · by_cases c : -b ≤ q
    · exact c
    · have : s * (q + 1) ≤ 1 * (q + 1) ∨ 0 < q + 1 := by
        by_cases c2 : 0 < q + 1
        · exact .inr c2
        · exact .inl (Int.mul_le_mul_of_nonpos_right hs (by omega))
      rw [Int.mul_add] at this
      omega
  · by_cases c : q ≤ b
    · exact c
    · have : 1 * q ≤ s * q := Int.mul_le_mul_of_nonneg_right hs (by omega)
      omega
/-- whether what lies r above the q-th standing value is written up -/
def Up (s : Int) (m : Str) (q r : Int) : Bool := if m = "down" then false else if m = "up" then decide (1 ≤ r) else if m = "half_up" ∨ (m = "half_even" ∧ (q + 1) % 2 = 0) then decide (s ≤ 2 * r) else decide (s < 2 * r)
theorem fig_at {o s q r v : Int} {m : Str} (hs : 1 ≤ s) (hv : v = o + s * q + r) (h0 : 0 ≤ r) (h1 : r < s) : figf o s m v = if Up s m q r = true then q + 1 else q := by
  have e1 : (v - o) / s = q := by
    have : v - o = r + s * q := by omega
    rw [this, Int.add_mul_ediv_left _ _ (by omega), Int.ediv_eq_zero_of_lt h0 h1]
    omega
  unfold figf thr Up
  rw [e1]
  have e2 : s * (q + 1) = s * q + s := by rw [Int.mul_add, Int.mul_one]
  rw [e2]
  generalize s * q = p at *
  by_cases a1 : m = "down"
  · simp only [a1, if_true]
    rw [if_neg (by omega), if_neg Bool.false_ne_true]
  · simp only [a1, if_false]
    by_cases a2 : m = "up"
    · simp only [a2, if_true, decide_eq_true_eq]
      by_cases c : 1 ≤ r
      · rw [if_pos c, if_pos (by omega)]
      · rw [if_neg c, if_neg (by omega)]
    · simp only [a2, if_false]
      by_cases a3 : m = "half_up" ∨ (m = "half_even" ∧ (q + 1) % 2 = 0)
      · simp only [if_pos a3, decide_eq_true_eq]
        by_cases c : s ≤ 2 * r
        · rw [if_pos c, if_pos (by omega)]
        · rw [if_neg c, if_neg (by omega)]
      · simp only [if_neg a3, decide_eq_true_eq]
        by_cases c : s < 2 * r
        · rw [if_pos c, if_pos (by omega)]
        · rw [if_neg c, if_neg (by omega)]
theorem up_zero {s q : Int} {m : Str} (hs : 1 ≤ s) : Up s m q 0 = false := by
  unfold Up
  split
  · rfl
  · split
    · exact decide_eq_false (by omega)
    · split <;> exact decide_eq_false (by omega)
theorem up_mono {s q r r' : Int} {m : Str} (h : r ≤ r') (u : Up s m q r = true) : Up s m q r' = true := by
  unfold Up at u ⊢
  split
  · rename_i e; rw [if_pos e] at u; exact u
  · rename_i e; rw [if_neg e] at u
    split
    · rename_i e2; rw [if_pos e2] at u; exact decide_eq_true (by have := of_decide_eq_true u; omega)
    · rename_i e2; rw [if_neg e2] at u
      split
      · rename_i e3; rw [if_pos e3] at u; exact decide_eq_true (by have := of_decide_eq_true u; omega)
      · rename_i e3; rw [if_neg e3] at u; exact decide_eq_true (by have := of_decide_eq_true u; omega)
theorem up_two {s q r : Int} {m : Str} : Up s m (q + 2) r = Up s m q r := by
  have e : ((q + 2 + 1) % 2 = 0) = ((q + 1) % 2 = 0) := by apply propext; omega
  unfold Up
  simp only [e]
theorem up_half {s q r : Int} {m : Str} (hm : m = "half_down" ∨ m = "half_up" ∨ m = "half_even") : (Up s m q r = true → s ≤ 2 * r) ∧ (Up s m q r = false → 2 * r ≤ s) := by
  unfold Up
  rcases hm with rfl | rfl | rfl <;> simp
  · omega
  · omega
  · split <;> simp <;> omega
theorem place (o : Int) {s : Int} (hs : 1 ≤ s) (v : Int) : ∃ q r, v = o + s * q + r ∧ 0 ≤ r ∧ r < s ∧ (v - o) / s = q ∧ (v - o) % s = r :=
  ⟨(v - o) / s, (v - o) % s, by have := Int.mul_ediv_add_emod (v - o) s; omega, Int.emod_nonneg _ (by omega), Int.emod_lt_of_pos _ (by omega), rfl, rfl⟩

section
variable {o s k v i : Int} {m x : Str} {b : Bool} {xs : List D} {Q : DK} {W : XKD}
def lfig (o s : Int) (m : Str) (v : Int) : Int :=
  if m = "down" ∨ v - o - s * ((v - o) / s) = 0 then (v - o) / s else if m = "up" ∨ s < 2 * (v - o - s * ((v - o) / s)) then (v - o) / s + 1 else if 2 * (v - o - s * ((v - o) / s)) < s ∨ m = "half_down" then (v - o) / s else
    (v - o) / s + if m = "half_up" ∨ (v - o) / s % 2 = 1 then 1 else 0
theorem lfig_eq (hs : 1 ≤ s) (hm : IsMd m) : lfig o s m v = figf o s m v := by
  obtain ⟨q, r, hv, r0, r1, e1, e2⟩ := place o hs v
  rw [fig_at hs hv r0 r1]
  unfold lfig Up
  rw [e1]
  have e3 : v - o - s * q = r := by omega
  rw [e3]
  rcases hm with rfl | rfl | rfl | rfl | rfl
  · simp
  · simp
    by_cases c : r = 0
    · simp [c]
    · simp [c]; omega
  · simp
    omega
  · simp
    repeat (split <;> try omega)
  · simp
    repeat (split <;> try omega)
/-- what is written, by its place -/
theorem hand_at {q r : Int} (hs : 1 ≤ s) (hv : v = o + s * q + r) (h0 : 0 ≤ r) (h1 : r < s) : hand o s m v = o + s * q + if Up s m q r = true then s else 0 := by
  unfold hand
  rw [fig_at hs hv h0 h1]
  have e2 : s * (q + 1) = s * q + s := by rw [Int.mul_add, Int.mul_one]
  split
  · rw [e2]; omega
  · omega
theorem hand_bd (S : SOk o s m) : v - s < hand o s m v ∧ hand o s m v < v + s := by
  obtain ⟨q, r, hv, r0, r1, _⟩ := place o S.s1 v
  rw [hand_at (m := m) S.s1 hv r0 r1]
  have := S.s1
  by_cases c : r = 0
  · rw [c, up_zero S.s1, if_neg Bool.false_ne_true]; omega
  · split <;> omega
theorem hand_half (S : SOk o s m) (hm : m = "half_down" ∨ m = "half_up" ∨ m = "half_even") : 2 * (if hand o s m v - v < 0 then -(hand o s m v - v) else hand o s m v - v) ≤ s := by
  obtain ⟨q, r, hv, r0, r1, _⟩ := place o S.s1 v
  rw [hand_at (m := m) S.s1 hv r0 r1]
  obtain ⟨h1, h2⟩ := up_half (s := s) (q := q) (r := r) hm
  cases u : Up s m q r with
  | true =>
    have := h1 u
    rw [if_pos rfl]
    split <;> omega
  | false =>
    have := h2 u
    rw [if_neg Bool.false_ne_true]
    split <;> omega
theorem hand_stands (S : SOk o s m) : decide ((v - o) % s = 0) = decide (hand o s m v = v) := by
  obtain ⟨q, r, hv, r0, r1, e1, e2⟩ := place o S.s1 v
  rw [e2, hand_at (m := m) S.s1 hv r0 r1]
  by_cases c : r = 0
  · rw [c, up_zero S.s1, if_neg Bool.false_ne_true, decide_eq_true rfl, decide_eq_true (by omega)]
  · rw [decide_eq_false c, decide_eq_false (by split <;> omega)]
theorem hand_std (q : Int) : (o + s * q - o) % s = 0 := by
  rw [show o + s * q - o = s * q by omega]
  exact Int.mul_emod_right s q
theorem hand_fix (S : SOk o s m) (q : Int) : hand o s m (o + s * q) = o + s * q := by
  have := S.s1
  rw [hand_at (m := m) (q := q) (r := 0) S.s1 (by omega) (by omega) (by omega), up_zero S.s1, if_neg Bool.false_ne_true]
  omega
theorem hand_mono (S : SOk o s m) : hand o s m v ≤ hand o s m (v + 1) := by
  obtain ⟨q, r, hv, r0, r1, _⟩ := place o S.s1 v
  have := S.s1
  by_cases c : r + 1 < s
  · rw [hand_at (m := m) S.s1 hv r0 r1, hand_at (m := m) (q := q) (r := r + 1) S.s1 (by omega) (by omega) c]
    cases u : Up s m q r with
    | true => rw [up_mono (r' := r + 1) (by omega) u]; exact Int.le_refl _
    | false => rw [if_neg Bool.false_ne_true]; split <;> omega
  · have e : v + 1 = o + s * (q + 1) := by rw [Int.mul_add, Int.mul_one]; omega
    rw [e, hand_fix S, hand_at (m := m) S.s1 hv r0 r1, Int.mul_add, Int.mul_one]
    split <;> omega
theorem hand_two (S : SOk o s m) : hand o s m (v + s * 2) = hand o s m v + s * 2 := by
  obtain ⟨q, r, hv, r0, r1, _⟩ := place o S.s1 v
  have e3 : s * (q + 2) = s * q + s * 2 := Int.mul_add s q 2
  rw [hand_at (m := m) S.s1 hv r0 r1, hand_at (m := m) (q := q + 2) (r := r) S.s1 (by omega) r0 r1, up_two]
  omega

/-- the Galois pair: a value is handed the figure k or more exactly from the threshold of k on -/
theorem thr_le (hs : 1 ≤ s) : thr o s m k ≤ o + s * k ∧ o + s * k - s < thr o s m k := by
  unfold thr
  generalize s * k = p
  split
  · omega
  · split
    · omega
    · split <;> omega
theorem thr_lt (hs : 1 ≤ s) : thr o s m k < thr o s m (k + 1) := by
  unfold thr
  have e : s * (k + 1) = s * k + s := by rw [Int.mul_add, Int.mul_one]
  rw [e]
  generalize s * k = p
  split
  · omega
  · split
    · omega
    · split
      · split <;> omega
      · split <;> omega
theorem mul_mono {a b : Int} (hs : 1 ≤ s) (h : a ≤ b) : s * a ≤ s * b := Int.mul_le_mul_of_nonneg_left h (by omega)
theorem fig_iff (hs : 1 ≤ s) : thr o s m k ≤ v ↔ k ≤ figf o s m v := by
  obtain ⟨q, r, hv, r0, r1, e1, e2⟩ := place o hs v
  have e3 : s * (q + 1) = s * q + s := by rw [Int.mul_add, Int.mul_one]
  have hk := thr_le (o := o) (m := m) (k := k) hs
  have hq := thr_le (o := o) (m := m) (k := q + 1) hs
  unfold figf
  rw [e1]
  by_cases c : k ≤ q
  · have := mul_mono hs c
    constructor
    · intro _; split <;> omega
    · intro _; omega
  · by_cases c2 : k = q + 1
    · rw [c2]
      constructor
      · intro h; rw [if_pos h]; omega
      · intro h
        by_cases c3 : thr o s m (q + 1) ≤ v
        · exact c3
        · rw [if_neg c3] at h; omega
    · have := mul_mono hs (show q + 1 + 1 ≤ k by omega)
      have e4 : s * (q + 1 + 1) = s * q + s + s := by rw [Int.mul_add, Int.mul_one, e3]
      constructor
      · intro h; omega
      · intro h; split at h <;> omega
theorem fig_is (hs : 1 ≤ s) (h1 : thr o s m k ≤ v) (h2 : v < thr o s m (k + 1)) : figf o s m v = k := by
  have a := (fig_iff hs).mp h1
  have b : ¬ k + 1 ≤ figf o s m v := fun h => by have := (fig_iff hs).mpr h; omega
  omega
end
end Hm
set_option Elab.async false
set_option linter.all false
set_option maxRecDepth 100000
set_option maxHeartbeats 4000000
namespace Hm
open PySem L2
/-! ### two sides: the mathematics of their exchange -/
structure Sde where
  o : Int
  s : Int
  m : Str
def Sde.t (A : Sde) (k : Int) : Int := thr A.o A.s A.m k
def Sde.f (A : Sde) (v : Int) : Int := figf A.o A.s A.m v
def Sde.h (A : Sde) (v : Int) : Int := hand A.o A.s A.m v
def bkf (o s : Int) (m : Str) (v : Int) : Int := thr o s m (-((o - v) / s))
def Sde.b (A : Sde) (v : Int) : Int := bkf A.o A.s A.m v
def Sde.g (A : Sde) (k : Int) : Int := A.o + A.s * k
section
variable {A F C : Sde} {k v x y : Int}
theorem Sde.h_is (A : Sde) (v : Int) : A.h v = A.g (A.f v) := rfl
theorem Sde.fi (hs : 1 ≤ A.s) : A.t k ≤ v ↔ k ≤ A.f v := fig_iff hs
theorem Sde.tlt (hs : 1 ≤ A.s) : A.t k < A.t (k + 1) := thr_lt hs
theorem Sde.tmono (hs : 1 ≤ A.s) {k j : Int} (h : k ≤ j) : A.t k ≤ A.t j := by
  obtain ⟨n, rfl⟩ : ∃ n : Nat, j = k + n := ⟨(j - k).toNat, by omega⟩
  clear h
  induction n with
  | zero => simp
  | succ n ih =>
    have := A.tlt hs (k := k + n)
    have e : k + ((n + 1 : Nat) : Int) = k + n + 1 := by omega
    rw [e]; omega
theorem Sde.cell (hs : 1 ≤ A.s) (h1 : A.t k ≤ v) (h2 : v < A.t (k + 1)) : A.f v = k := fig_is hs h1 h2
theorem Sde.inCell (hs : 1 ≤ A.s) (v : Int) : A.t (A.f v) ≤ v ∧ v < A.t (A.f v + 1) := by
  constructor
  · exact (A.fi hs).mpr (Int.le_refl _)
  · by_cases c : v < A.t (A.f v + 1)
    · exact c
    · have := (A.fi hs (k := A.f v + 1) (v := v)).mp (by omega)
      omega
/-- hands over x or more exactly from back x on -/
theorem Sde.hge (hs : 1 ≤ A.s) : x ≤ A.h v ↔ A.b x ≤ v := by
  have e := Int.mul_ediv_add_emod (A.o - x) A.s
  have r0 := Int.emod_nonneg (A.o - x) (show A.s ≠ 0 by omega)
  have r1 := Int.emod_lt_of_pos (A.o - x) (show 0 < A.s by omega)
  have key : A.b x ≤ v ↔ -((A.o - x) / A.s) ≤ A.f v := A.fi hs
  rw [key, A.h_is]
  unfold Sde.g
  generalize (A.o - x) / A.s = q at *
  generalize (A.o - x) % A.s = r at *
  constructor
  · intro h
    by_cases c : -q ≤ A.f v
    · exact c
    · have := mul_mono hs (show A.f v ≤ -q - 1 by omega)
      rw [Int.mul_sub, Int.mul_neg, Int.mul_one] at this
      omega
  · intro h
    have := mul_mono hs h
    rw [Int.mul_neg] at this
    omega
theorem Sde.hbd (hs : 1 ≤ A.s) : v - A.s < A.h v ∧ A.h v < v + A.s := by
  obtain ⟨q, r, hv, r0, r1, _⟩ := place A.o hs v
  unfold Sde.h
  rw [hand_at (m := A.m) hs hv r0 r1]
  split
  · rename_i u
    have : r ≠ 0 := by
      intro z
      rw [z, up_zero hs] at u
      cases u
    omega
  · omega
/-- standing values -/
theorem Sde.hfix (hs : 1 ≤ A.s) (q : Int) : A.h (A.g q) = A.g q := by
  unfold Sde.h Sde.g
  rw [hand_at (m := A.m) hs (show A.o + A.s * q = A.o + A.s * q + 0 by omega) (Int.le_refl _) (by omega), up_zero hs]
  simp
theorem Sde.stands (hs : 1 ≤ A.s) : A.h x = x ↔ (x - A.o) % A.s = 0 := by
  constructor
  · intro h
    have e : x = A.o + A.s * A.f x := h.symm
    have e2 : x - A.o = A.s * A.f x := by omega
    rw [e2]; exact Int.mul_emod_right _ _
  · intro h
    obtain ⟨q, hq⟩ := Int.dvd_of_emod_eq_zero h
    have e : x = A.g q := by unfold Sde.g; omega
    rw [e]; exact A.hfix hs q
def dif (F C : Sde) (v : Int) : Prop := C.h (F.h v) ≠ F.h (C.h v)
/-- within the cell of the coarse side -/
theorem dif_cell (hF : 1 ≤ F.s) (hC : 1 ≤ C.s) (hFC : F.s ≤ C.s) (h1 : C.t k ≤ v) (h2 : v < C.t (k + 1)) : dif F C v ↔ ((C.g k - F.o) % F.s ≠ 0 ∨ v < F.b (C.t k) ∨ F.b (C.t (k + 1)) ≤ v) := by
  have e1 : C.h v = C.g k := by rw [C.h_is, C.cell hC h1 h2]
  unfold dif
  rw [e1]
  by_cases st : (C.g k - F.o) % F.s = 0
  · have e2 : F.h (C.g k) = C.g k := (F.stands hF).mpr st
    rw [e2]
    constructor
    · intro h
      refine .inr ?_
      by_cases c1 : v < F.b (C.t k)
      · exact .inl c1
      · refine .inr ?_
        by_cases c2 : F.b (C.t (k + 1)) ≤ v
        · exact c2
        · exfalso
          have a1 := (F.hge hF (x := C.t k) (v := v)).mpr (by omega)
          have a2 : ¬ C.t (k + 1) ≤ F.h v := fun z => c2 ((F.hge hF).mp z)
          exact h (by rw [C.h_is, C.cell hC a1 (by omega)])
    · rintro (h | h | h)
      · exact absurd st h
      · intro z
        have a1 : ¬ C.t k ≤ F.h v := fun z => by have := (F.hge hF).mp z; omega
        rw [C.h_is] at z
        have a2 : ¬ k ≤ C.f (F.h v) := fun q => a1 ((C.fi hC).mpr q)
        have a3 : C.f (F.h v) = k := by
          unfold Sde.g at z
          have z' : C.s * C.f (F.h v) = C.s * k := by omega
          exact Int.eq_of_mul_eq_mul_left (by omega) z'
        omega
      · intro z
        have a1 : C.t (k + 1) ≤ F.h v := (F.hge hF).mpr h
        rw [C.h_is] at z
        have a2 : k + 1 ≤ C.f (F.h v) := (C.fi hC).mp a1
        have a3 : C.f (F.h v) = k := by
          unfold Sde.g at z
          have z' : C.s * C.f (F.h v) = C.s * k := by omega
          exact Int.eq_of_mul_eq_mul_left (by omega) z'
        omega
  · refine ⟨fun _ => .inl st, fun _ z => ?_⟩
    have b := F.hbd hF (v := C.g k)
    have ne : F.h (C.g k) ≠ C.g k := fun q => st ((F.stands hF).mp q)
    rw [C.h_is] at z
    unfold Sde.g at z b ne
    rw [← z] at b ne
    generalize C.f (F.h v) = j at *
    have ne2 : j ≠ k := fun q => ne (by rw [q])
    rcases Int.lt_or_gt_of_ne ne2 with q | q
    · have := mul_mono hC (show j ≤ k - 1 by omega)
      rw [Int.mul_sub, Int.mul_one] at this
      omega
    · have := mul_mono hC (show k + 1 ≤ j by omega)
      rw [Int.mul_add, Int.mul_one] at this
      omega

/-- the least value of the cell, from the told one on, that comes elsewhere -/
def part (F C : Sde) (k value : Int) : Option Int :=
  if C.t (k + 1) - 1 < max value (C.t k) then none
  else if (C.g k - F.o) % F.s ≠ 0 ∨ max value (C.t k) < F.b (C.t k) then some (max value (C.t k))
  else if max (max value (C.t k)) (F.b (C.t (k + 1) - 1 + 1)) ≤ C.t (k + 1) - 1 then some (max (max value (C.t k)) (F.b (C.t (k + 1) - 1 + 1))) else none
theorem part_some {w : Int} (hF : 1 ≤ F.s) (hC : 1 ≤ C.s) (hFC : F.s ≤ C.s) (h : part F C k w = some x) : w ≤ x ∧ C.t k ≤ x ∧ x < C.t (k + 1) ∧ dif F C x ∧ ∀ y, w ≤ y → C.t k ≤ y → y < x → ¬ dif F C y := by
  unfold part at h
  split at h
  · cases h
  · rename_i c1
    split at h
    · rename_i c2
      cases h
      refine ⟨by omega, by omega, by omega, ?_, fun y h1 h2 h3 => by omega⟩
      rw [dif_cell hF hC hFC (k := k) (by omega) (by omega)]
      rcases c2 with c2 | c2
      · exact .inl c2
      · exact .inr (.inl c2)
    · rename_i c2
      split at h
      · rename_i c3
        cases h
        rw [show C.t (k + 1) - 1 + 1 = C.t (k + 1) by omega] at *
        refine ⟨by omega, by omega, by omega, ?_, fun y h1 h2 h3 => ?_⟩
        · rw [dif_cell hF hC hFC (k := k) (by omega) (by omega)]
          exact .inr (.inr (by omega))
        · rw [dif_cell hF hC hFC (k := k) (by omega) (by omega)]
          omega
      · cases h
theorem part_none {w : Int} (hF : 1 ≤ F.s) (hC : 1 ≤ C.s) (hFC : F.s ≤ C.s) (h : part F C k w = none) : ∀ y, w ≤ y → C.t k ≤ y → y < C.t (k + 1) → ¬ dif F C y := by
  intro y h1 h2 h3
  unfold part at h
  rw [dif_cell hF hC hFC h2 h3]
  split at h
  · omega
  · split at h
    · cases h
    · split at h
      · cases h
      · rw [show C.t (k + 1) - 1 + 1 = C.t (k + 1) by omega] at *
        omega
def exch (F C : Sde) (w : Int) : Nat → Int → Option Int
  | 0, _ => none
  | n + 1, k => match part F C k w with
    | some x => some x
    | none => exch F C w n (k + 1)
theorem exch_some {w : Int} (hF : 1 ≤ F.s) (hC : 1 ≤ C.s) (hFC : F.s ≤ C.s) : ∀ {n : Nat} {k : Int}, exch F C w n k = some x → w ≤ x ∧ C.t k ≤ x ∧ dif F C x ∧ ∀ y, w ≤ y → C.t k ≤ y → y < x → ¬ dif F C y
  | 0, _, h => by cases h
  | n + 1, k, h => by
    unfold exch at h
    split at h
    · rename_i z e
      cases h
      obtain ⟨a, b, _, c, d⟩ := part_some hF hC hFC e
      exact ⟨a, b, c, d⟩
    · rename_i e
      obtain ⟨a, b, c, d⟩ := exch_some hF hC hFC h
      have q := part_none hF hC hFC e
      have t := C.tlt hC (k := k)
      refine ⟨a, by omega, c, fun y h1 h2 h3 => ?_⟩
      by_cases hy : y < C.t (k + 1)
      · exact q y h1 h2 hy
      · exact d y h1 (by omega) h3
theorem exch_none {w : Int} (hF : 1 ≤ F.s) (hC : 1 ≤ C.s) (hFC : F.s ≤ C.s) : ∀ {n : Nat} {k : Int}, exch F C w n k = none → ∀ y, w ≤ y → C.t k ≤ y → y < C.t (k + n) → ¬ dif F C y
  | 0, _, _ => fun y h1 h2 h3 => by simp at h3; omega
  | n + 1, k, h => fun y h1 h2 h3 => by
    unfold exch at h
    split at h
    · cases h
    · rename_i e
      by_cases hy : y < C.t (k + 1)
      · exact part_none hF hC hFC e y h1 h2 hy
      · exact exch_none hF hC hFC h y h1 (by omega) (by rw [show k + 1 + (n : Int) = k + ((n + 1 : Nat) : Int) by omega]; exact h3)
/-- thresholds by two figures on -/
theorem Sde.tper (j : Int) : A.t (k + 2 * j) = A.t k + 2 * (A.s * j) := by
  unfold Sde.t thr
  have e : A.s * (k + 2 * j) = A.s * k + 2 * (A.s * j) := by rw [Int.mul_add, ← Int.mul_assoc, Int.mul_comm A.s 2, Int.mul_assoc]
  have e2 : ((k + 2 * j) % 2 = 0) = (k % 2 = 0) := by apply propext; omega
  simp only [e, e2]
  generalize A.s * k = p
  generalize A.s * j = r
  split
  · omega
  · split
    · omega
    · split <;> omega
theorem Sde.bper (hs : 1 ≤ A.s) (j : Int) : A.b (x + 2 * (A.s * j)) = A.b x + 2 * (A.s * j) := by
  unfold Sde.b bkf
  have e : (A.o - (x + 2 * (A.s * j))) / A.s = (A.o - x) / A.s - 2 * j := by
    have : A.o - (x + 2 * (A.s * j)) = A.o - x + A.s * (-(2 * j)) := by
      rw [Int.mul_neg, Int.mul_left_comm A.s 2 j]; omega
    rw [this, Int.add_mul_ediv_left _ _ (by omega)]
    omega
  rw [e]
  have := A.tper (k := -((A.o - x) / A.s)) j
  unfold Sde.t at this
  rw [← this]
  congr 1
  omega
/-- eight cells without one: none at all -/
theorem none_all (hF : 1 ≤ F.s) (hC : 1 ≤ C.s) (hFC : F.s ≤ C.s) {w : Int} (h : ∀ y, w ≤ y → y < C.t (C.f w + 8) → ¬ dif F C y) : ∀ y, ¬ dif F C y := by
  have cw := C.inCell hC w
  generalize hk : C.f w = k at *
  have full : ∀ j : Int, k + 1 ≤ j → j ≤ k + 7 → ∀ y, C.t j ≤ y → y < C.t (j + 1) → ¬ dif F C y := fun j h1 h2 y h3 h4 => by
    have t1 := C.tmono hC (show k + 1 ≤ j from h1)
    have t2 := C.tmono hC (show j + 1 ≤ k + 8 by omega)
    exact h y (by omega) (by omega)
  have each : ∀ j : Int, k + 1 ≤ j → j ≤ k + 7 → (C.g j - F.o) % F.s = 0 ∧ F.b (C.t j) ≤ C.t j ∧ C.t (j + 1) ≤ F.b (C.t (j + 1)) := fun j h1 h2 => by
    have t1 := C.tlt hC (k := j)
    have a := full j h1 h2 (C.t j) (Int.le_refl _) t1
    rw [dif_cell hF hC hFC (Int.le_refl _) t1] at a
    have b := full j h1 h2 (C.t (j + 1) - 1) (by omega) (by omega)
    rw [dif_cell hF hC hFC (k := j) (by omega) (by omega)] at b
    omega
  obtain ⟨s1, a1, b1⟩ := each (k + 1) (by omega) (by omega)
  obtain ⟨s2, a2, b2⟩ := each (k + 2) (by omega) (by omega)
  obtain ⟨s3, a3, b3⟩ := each (k + 3) (by omega) (by omega)
  rw [show k + 1 + 1 = k + 2 by omega] at b1
  rw [show k + 2 + 1 = k + 3 by omega] at b2
  have t2 : F.b (C.t (k + 2)) = C.t (k + 2) := by omega
  have t3 : F.b (C.t (k + 3)) = C.t (k + 3) := by omega
  obtain ⟨q1, hq1⟩ := Int.dvd_of_emod_eq_zero s1
  obtain ⟨q2, hq2⟩ := Int.dvd_of_emod_eq_zero s2
  have hs : C.s = F.s * (q2 - q1) := by
    rw [Int.mul_sub, ← hq1, ← hq2]
    unfold Sde.g
    rw [Int.mul_add, Int.mul_add]
    omega
  have st : ∀ j, (C.g j - F.o) % F.s = 0 := fun j => by
    refine Int.emod_eq_zero_of_dvd ⟨q1 + (q2 - q1) * (j - (k + 1)), ?_⟩
    rw [Int.mul_add, ← hq1, ← Int.mul_assoc, ← hs]
    unfold Sde.g
    rw [Int.mul_sub]
    omega
  have th : ∀ j, F.b (C.t j) = C.t j := fun j => by
    have key : ∀ i j0 : Int, F.b (C.t j0) = C.t j0 → F.b (C.t (j0 + 2 * i)) = C.t (j0 + 2 * i) := fun i j0 e => by
      rw [C.tper]
      have e2 : C.s * i = F.s * ((q2 - q1) * i) := by rw [hs, Int.mul_assoc]
      rw [e2, F.bper hF, e]
    by_cases c : (j - k) % 2 = 0
    · have := key ((j - (k + 2)) / 2) (k + 2) t2
      rw [show k + 2 + 2 * ((j - (k + 2)) / 2) = j by omega] at this
      exact this
    · have := key ((j - (k + 3)) / 2) (k + 3) t3
      rw [show k + 3 + 2 * ((j - (k + 3)) / 2) = j by omega] at this
      exact this
  intro y
  have cy := C.inCell hC y
  rw [dif_cell hF hC hFC cy.1 cy.2, th, th]
  have := st (C.f y)
  omega
end
end Hm
set_option Elab.async false
set_option linter.all false
set_option maxRecDepth 100000
set_option maxHeartbeats 4000000
namespace Hm
open PySem L2
section
variable {o s k v i : Int} {m x : Str} {b : Bool} {xs : List D} {Q : DK} {W : XKD} {A F C : Sde}
theorem sm_ob {i : Int} (h1 : -(10 ^ 280) ≤ i) (h2 : i ≤ 10 ^ 280) : Sm i := by
  unfold Sm
  have : i.natAbs ≤ 10 ^ 280 := by omega
  have p : (2 : Nat) ^ 1000 < 2 ^ 4000 := Nat.pow_lt_pow_right (by decide) (by decide)
  exact Nat.lt_of_le_of_lt this (Nat.lt_trans (by decide +kernel) p)
theorem e_threshold : m_threshold [sideD o s m, .int k] Q W = (CMulW s k ∧ Q (.int (thr o s m k))) := by
  apply propext
  simp [m_threshold, mFun]
  intro h1
  unfold thr
  by_cases a1 : m = "down"
  · simp [a1]
  · by_cases a2 : m = "up"
    · simp [a2]
    · by_cases a3 : m = "half_up"
      · simp [a3]
      · by_cases a4 : m = "half_even"
        · by_cases a5 : k % 2 = 0 <;> simp [a4, a5]
        · simp [a1, a2, a3, a4]
@[simp] theorem e_is_integer_int : m_is_integer [.int i] Q W = Q (.bl true) := by simp [m_is_integer, mFun]
@[simp] theorem e_is_integer_bl : m_is_integer [.bl b] Q W = Q (.bl false) := by simp [m_is_integer, mFun]
@[simp] theorem e_is_integer_non : m_is_integer [.non] Q W = Q (.bl false) := by simp [m_is_integer, mFun]
@[simp] theorem e_is_integer_str : m_is_integer [.str x] Q W = Q (.bl false) := by simp [m_is_integer, mFun]
@[simp] theorem e_is_integer_tup : m_is_integer [.tup xs] Q W = Q (.bl false) := by simp [m_is_integer, mFun]
@[simp] theorem e_is_integer_lst : m_is_integer [.lst xs] Q W = Q (.bl false) := by simp [m_is_integer, mFun]
theorem e_is_side (S : SOk o s m) : m_is_side [sideD o s m] Q W = Q (.bl true) := by
  obtain ⟨o1, o2, s1, s2, md⟩ := S
  simp [m_is_side, mFun, k_MODES, k_GREATEST_OFFSET, k_GREATEST_STEP]
  rw [if_neg (by split <;> omega), if_pos s1, if_pos (by omega)]
  have e : (D.str m).isIn [D.str "down", D.str "up", D.str "half_down", D.str "half_up", D.str "half_even"] = true := by
    rcases md with rfl | rfl | rfl | rfl | rfl <;> simp [D.isIn]
  rw [e]
theorem e_check_side (S : SOk o s m) : m_check_side [sideD o s m] Q W = Q .non := by
  have := e_is_side S (W := W) (Q := fun d => match d with | .bl b => (if (!b) = true then W ⟨"InvalidSide", []⟩ else Q .non) | _ => False)
  simp only [m_check_side, mFun, mIfS, mNot, mTruth, mCall, mCons, mNil, mVar, mRaise, mNext]
  simp
  rw [e_is_side S]
  simp
theorem e_check_value : m_check_value [.int v] Q W = Q .non := by simp [m_check_value, mFun]
theorem SOk.big (S : SOk o s m) : s < 2 ^ 8000 := (lim_ok (by have := S.s1; omega) (by have := S.s2; omega)).2
theorem c_pick (hx : xs ≠ []) (hl : xs.length ≤ 1000) (h : ∀ d ∈ xs, Q d) : m_law_pick [.src, .lst xs] Q W := by
  have hp : 0 < xs.length := List.length_pos_iff.mpr hx
  simp [m_law_pick]
  exact ⟨by omega, fun r h0 h1 => ix_at h0 h1 h⟩
theorem all3 {P : D → Prop} {a b c : D} (ha : P a) (hb : P b) (hc : P c) : ∀ d ∈ [a, b, c], P d := by simp [ha, hb, hc]
theorem all5 {P : D → Prop} {a b c d e : D} (ha : P a) (hb : P b) (hc : P c) (hd : P d) (he : P e) : ∀ x ∈ [a, b, c, d, e], P x := by simp [ha, hb, hc, hd, he]
theorem all2 {P : D → Prop} {a b : D} (ha : P a) (hb : P b) : ∀ d ∈ [a, b], P d := by simp [ha, hb]
theorem mul_bd {a b A B : Int} (h1 : 0 ≤ a) (h2 : a ≤ A) (h3 : -B ≤ b) (h4 : b ≤ B) : -(A * B) ≤ a * b ∧ a * b ≤ A * B := by
  have hB : 0 ≤ B := by omega
  have e1 : a * b ≤ a * B := Int.mul_le_mul_of_nonneg_left h4 h1
  have e2 : a * B ≤ A * B := Int.mul_le_mul_of_nonneg_right h2 hB
  have e3 : a * (-B) ≤ a * b := Int.mul_le_mul_of_nonneg_left h3 h1
  rw [Int.mul_neg] at e3
  omega

theorem mul_ok (S : SOk o s m) (h1 : -(10 ^ 250) ≤ k) (h2 : k ≤ 10 ^ 250) : CMulW s k :=
  cmul (sm_ob (by have := S.s1; omega) (by have := S.s2; omega)) (sm_ob (by omega) (by omega))

def Sde.d (A : Sde) : D := .tup [.int A.o, .int A.s, .str A.m]
def oint : Option Int → D
  | none => .non
  | some x => .int x
/-- a side that is none too great -/
structure Sok (A : Sde) : Prop where
  s : SOk A.o A.s A.m
theorem thr_bd (S : SOk o s m) {N : Int} (hN : 0 ≤ N) (h1 : -N ≤ k) (h2 : k ≤ N) : -(10 ^ 30 * N + 10 ^ 41) ≤ thr o s m k ∧ thr o s m k ≤ 10 ^ 30 * N + 10 ^ 41 := by
  have h := thr_le (o := o) (m := m) (k := k) S.s1
  have mb := mul_bd (a := s) (b := k) (A := 10 ^ 30) (B := N) (by have := S.s1; omega) S.s2 h1 h2
  have := S.o1; have := S.o2; have := S.s2; have := S.s1
  omega
theorem e_figure_for (S : SOk o s m) (h1 : -(10 ^ 200) ≤ v) (h2 : v ≤ 10 ^ 200) : m_figure_for [sideD o s m, .int v] Q W = Q (.int (figf o s m v)) := by
  have hd : CDivW (v - o) s := cdiv (by have := S.s1; omega) S.big
  have hb := div_bd (x := v - o) (b := 10 ^ 201) S.s1 (by have := S.o2; omega) (by have := S.o1; omega)
  have hm : CMulW s ((v - o) / s + 1) := mul_ok S (by omega) (by omega)
  simp [m_figure_for, mFun, hd, e_threshold, hm]
  unfold figf
  by_cases c : thr o s m ((v - o) / s + 1) ≤ v
  · rw [if_pos c, if_pos c]
  · rw [if_neg c, if_neg c]
theorem e_least_for (S : SOk o s m) (h1 : -(10 ^ 200) ≤ v) (h2 : v ≤ 10 ^ 200) : m_least_for [sideD o s m, .int v] Q W = Q (.int (bkf o s m v)) := by
  have hd : CDivW (o - v) s := cdiv (by have := S.s1; omega) S.big
  have hb := div_bd (x := o - v) (b := 10 ^ 201) S.s1 (by have := S.o1; omega) (by have := S.o2; omega)
  simp [m_least_for, hd, e_threshold, mul_ok S (k := -((o - v) / s)) (by omega) (by omega), bkf]
theorem e_parted (SF : SOk F.o F.s F.m) (SC : SOk C.o C.s C.m) (h1 : -(10 ^ 100) ≤ k) (h2 : k ≤ 10 ^ 100) : m_parted_in [F.d, C.d, .int k, .int v] Q W = Q (oint (part F C k v)) := by
  have b1 := thr_bd SC (k := k) (N := 10 ^ 101) (by omega) (by omega) (by omega)
  have b2 := thr_bd SC (k := k + 1) (N := 10 ^ 101) (by omega) (by omega) (by omega)
  have f1 := SF.s1
  simp [m_parted_in, Sde.d, e_threshold, mul_ok SC (k := k) (by omega) (by omega), mul_ok SC (k := k + 1) (by omega) (by omega), e_least_for SF (v := thr C.o C.s C.m k) (by omega) (by omega), e_least_for SF (v := thr C.o C.s C.m (k + 1)) (by omega) (by omega)]
  have hmx : ∀ a b : Int, (if a < b then b else a) = max a b := fun a b => by split <;> omega
  simp only [hmx]
  unfold part Sde.t Sde.b Sde.g
  rw [show thr C.o C.s C.m (k + 1) - 1 + 1 = thr C.o C.s C.m (k + 1) by omega]
  by_cases c1 : thr C.o C.s C.m (k + 1) - 1 < max v (thr C.o C.s C.m k)
  · rw [if_pos c1, if_pos c1]; rfl
  · rw [if_neg c1, if_neg c1]
    have fz : 0 < F.s := by omega
    by_cases c2 : (C.o + C.s * k - F.o) % F.s = 0
    · rw [if_pos c2]
      by_cases c3 : max v (thr C.o C.s C.m k) < bkf F.o F.s F.m (thr C.o C.s C.m k)
      · rw [if_pos c3, if_pos (.inr c3)]; simp [fz, oint]
      · have c23 : ¬ ((C.o + C.s * k - F.o) % F.s ≠ 0 ∨ max v (thr C.o C.s C.m k) < bkf F.o F.s F.m (thr C.o C.s C.m k)) := fun z => z.elim (fun z => z c2) c3
        rw [if_neg c3, if_neg c23]
        by_cases c4 : max (max v (thr C.o C.s C.m k)) (bkf F.o F.s F.m (thr C.o C.s C.m (k + 1))) ≤ thr C.o C.s C.m (k + 1) - 1
        · rw [if_pos c4, if_pos c4]; simp [fz, oint]
        · rw [if_neg c4, if_neg c4]; simp [fz, oint]
    · rw [if_neg c2, if_pos (.inl c2)]; simp [fz, oint]
theorem fig_bd (S : SOk o s m) {N : Int} (h0 : 10 ^ 41 ≤ N) (h1 : -N ≤ v) (h2 : v ≤ N) : -(3 * N) ≤ figf o s m v ∧ figf o s m v ≤ 3 * N := by
  have hb := div_bd (x := v - o) (b := 2 * N) S.s1 (by have := S.o2; omega) (by have := S.o1; omega)
  unfold figf
  split <;> omega
/-- the finer one, the coarser one -/
def fineOf (A B : Sde) : Sde := if A.s ≤ B.s then A else B
def coarseOf (A B : Sde) : Sde := if A.s ≤ B.s then B else A
def exchF (A B : Sde) (v : Int) : Option Int := exch (fineOf A B) (coarseOf A B) v 8 ((coarseOf A B).f v)
theorem ex_n {n : Nat} (ep : part F C k v = none) : exch F C v (n + 1) k = exch F C v n (k + 1) := by
  show (match part F C k v with | some x => some x | none => exch F C v n (k + 1)) = _
  rw [ep]
theorem ex_s {n : Nat} {y : Int} (ep : part F C k v = some y) : exch F C v (n + 1) k = some y := by
  show (match part F C k v with | some x => some x | none => exch F C v n (k + 1)) = _
  rw [ep]
theorem ex_loop (SF : SOk F.o F.s F.m) (SC : SOk C.o C.s C.m) {k0 : Int} (hk : -(10 ^ 90) ≤ k0 ∧ k0 ≤ 10 ^ 90) {a0 a1 a5 a6 a7 : Sl} (h : Q (oint (exch F C v 8 k0))) :
    mForL (gNm 6) (mSeq (mAsg 7 (mCall m_parted_in (mCons (mVar 3) (mCons (mVar 4) (mCons (mVar 6) (mCons (mVar 2) mNil)))))) (mIfS (mTest (mOp dIsNot (mVar 7) (mC D.non))) (mRet (mVar 7)) mNext))
      (rngD k0 8) [a0, a1, .dat (.int v), .dat F.d, .dat C.d, a5, a6, a7] { nx := fun x => Q D.non, rt := Q, bk := fun x => False, ct := fun x => False, ex := fun x x_1 => W x_1 } := by
  refine forR (fun i ρ => exch F C v 8 k0 = exch F C v (8 - i) (k0 + i) ∧ ∃ a6 a7, ρ = [a0, a1, .dat (.int v), .dat F.d, .dat C.d, a5, a6, a7]) ⟨by simp, _, _, rfl⟩ ?_ ?_
  · rintro ρ ⟨e, a6, a7, rfl⟩
    rw [e] at h
    exact h
  · rintro i ρ kk hi ⟨e, a6, a7, rfl⟩ hkk
    simp [e_parted SF SC (k := k0 + (i : Int)) (by omega) (by omega)]
    have e8 : 8 - i = (8 - (i + 1)) + 1 := by omega
    rw [e8] at e
    cases ep : part F C (k0 + (i : Int)) v with
    | none =>
      rw [ex_n ep] at e
      simp [oint, D.isN]
      exact hkk _ ⟨by rw [e, show k0 + ((i + 1 : Nat) : Int) = k0 + i + 1 by omega], _, _, rfl⟩
    | some y =>
      rw [ex_s ep] at e
      simp [oint, D.isN]
      rw [e] at h
      exact h
theorem c_exchange {A B : Sde} (SA : SOk A.o A.s A.m) (SB : SOk B.o B.s B.m) (h1 : -(10 ^ 80) ≤ v) (h2 : v ≤ 10 ^ 80) (hf : -(2 ^ 61) ≤ (coarseOf A B).f v ∧ (coarseOf A B).f v ≤ 2 ^ 61) (h : Q (oint (exchF A B v))) : m_exchange [A.d, B.d, .int v] Q W := by
  have e1 := fun Q W => e_check_side (Q := Q) (W := W) SA
  have e2 := fun Q W => e_check_side (Q := Q) (W := W) SB
  have e5 := fun Q W => e_check_value (Q := Q) (W := W) (v := v)
  unfold exchF at h
  simp [m_exchange, Sde.d, e1, e2, e5]
  by_cases c : A.s ≤ B.s
  · rw [if_pos c]
    unfold fineOf coarseOf at h
    unfold coarseOf at hf
    rw [if_pos c] at h hf
    rw [if_pos c] at h
    unfold Sde.f at hf
    simp [e_figure_for SB (v := v) (by omega) (by omega), k_TRIED]
    refine ⟨by omega, ?_⟩
    rw [show (figf B.o B.s B.m v + 8 - figf B.o B.s B.m v).toNat = 8 by omega]
    exact ex_loop SA SB (by omega) h
  · rw [if_neg c]
    unfold fineOf coarseOf at h
    unfold coarseOf at hf
    rw [if_neg c] at h hf
    rw [if_neg c] at h
    unfold Sde.f at hf
    simp [e_figure_for SA (v := v) (by omega) (by omega), k_TRIED]
    refine ⟨by omega, ?_⟩
    rw [show (figf A.o A.s A.m v + 8 - figf A.o A.s A.m v).toNat = 8 by omega]
    exact ex_loop SB SA (by omega) h
end
end Hm
set_option Elab.async false
set_option linter.all false
set_option maxRecDepth 100000
set_option maxHeartbeats 4000000
namespace Hm
open PySem L2
section
variable {o s k v i : Int} {m x : Str} {b : Bool} {xs : List D} {Q : DK} {W : XKD} {A F C : Sde}
theorem e_law_written (S : SOk o s m) (h1 : -(10 ^ 80) ≤ v) (h2 : v ≤ 10 ^ 80) : m_law_written [sideD o s m, .int v] Q W = Q (.int (hand o s m v)) := by
  have hd : CDivW (v - o) s := cdiv (by have := S.s1; omega) S.big
  have s1 := S.s1
  have sp : 0 < s := by omega
  obtain ⟨q, r, hv, r0, r1, e1, e2⟩ := place o S.s1 v
  have hb := div_bd (x := v - o) (b := 10 ^ 81) S.s1 (by have := S.o2; omega) (by have := S.o1; omega)
  have hm2 : CMulW 2 r := cmul (sm_lit (by decide)) (sm_ob (by have := S.s2; omega) (by have := S.s2; omega))
  have hq0 : CMulW s (q + 0) := mul_ok S (by omega) (by omega)
  have hq1 : CMulW s (q + 1) := mul_ok S (by omega) (by omega)
  rw [hand_at S.s1 hv r0 r1]
  simp [m_law_written, hd, e1, e2, sp, hm2]
  have hq0' : CMulW s q := mul_ok S (by omega) (by omega)
  have hi : ∀ (b : Bool) (Q : DK), (dInt [.bl b] fun y => dAdd (D.int q) y fun y => dMul (D.int s) y fun y => dAdd (D.int o) y Q) = Q (.int (o + s * q + if b = true then s else 0)) := fun b Q => by
    cases b with
    | true => simp [hq1]; rw [Int.mul_add, Int.mul_one, Int.add_assoc]
    | false => simp [hq0']
  rcases S.md with rfl | rfl | rfl | rfl | rfl
  · simp [mergeD, putD, Up, hi]
  · simp [mergeD, putD, Up, hi]
    by_cases c : 0 < r
    · rw [if_pos c, if_pos (by omega)]
    · rw [if_neg c, if_neg (by omega)]
  · simp [mergeD, putD, Up, hi]
  · simp [mergeD, putD, Up, hi]
  · simp [mergeD, putD, Up, hi]
    by_cases c1 : s < 2 * r
    · rw [if_pos c1, if_pos (by split <;> omega)]
    · rw [if_neg c1]
      by_cases c2 : 2 * r = s
      · rw [if_pos c2]
        by_cases c3 : q % 2 = 1
        · rw [if_pos c3, if_pos (by rw [if_pos (by omega)]; omega)]
        · rw [if_neg c3, if_neg (by rw [if_neg (by omega)]; omega)]
      · rw [if_neg c2, if_neg (by split <;> omega)]
        rw [Int.add_zero]
theorem c_great {n : Int} (h0 : 0 < n) (h : ∀ r, 0 ≤ r → r < n → Q (.int r)) : m_law_great [.src, .int n] Q W := by
  simp [m_law_great]
  refine forR (fun i ρ => ∃ (x : Sl) (r : Int), ρ = [.dat .src, .dat (.int n), .dat (.int r), x] ∧ 0 ≤ r ∧ r < 10 ^ (9 * i)) ⟨_, 0, rfl, by omega, by omega⟩ ?_ ?_
  · rintro ρ ⟨x, r, rfl, h0', h1⟩
    simp [h0]
    exact h _ (Int.emod_nonneg _ (by omega)) (Int.emod_lt_of_pos _ h0)
  · rintro i ρ k hi ⟨x, r, rfl, h0, h1⟩ hk
    have hp : (10 : Int) ^ (9 * i) ≤ 10 ^ 60 := by
      have : (10 : Nat) ^ (9 * i) ≤ 10 ^ 60 := Nat.pow_le_pow_right (by decide) (by omega)
      exact_mod_cast this
    simp
    refine ⟨cmul (sm_of (by omega) (by omega)) (sm_lit (by decide)), fun d d0 d1 => hk _ ⟨_, _, rfl, by omega, ?_⟩⟩
    rw [Nat.mul_add, Int.pow_add]
    omega
theorem md_pick {P : D → Prop} (h : ∀ m, IsMd m → P (.str m)) : ∀ d ∈ [D.str "down", .str "up", .str "half_down", .str "half_up", .str "half_even"], P d :=
  all5 (h _ (.inl rfl)) (h _ (.inr (.inl rfl))) (h _ (.inr (.inr (.inl rfl)))) (h _ (.inr (.inr (.inr (.inl rfl))))) (h _ (.inr (.inr (.inr (.inr rfl)))))
/-- a small side -/
structure Small (A : Sde) (N : Int) : Prop where
  o1 : -(10 * N) ≤ A.o
  o2 : A.o ≤ 10 * N
  s1 : 1 ≤ A.s
  s2 : A.s ≤ N
  md : IsMd A.m
theorem c_side (h : ∀ A, Small A 12 → Q A.d) : m_law_side [.src, .int 12] Q W := by
  simp [m_law_side, m_law_step]
  intro r r0 r1
  have hc : CMulW 3 (1 + r) := cmul (sm_lit (by decide)) (sm_of (by omega) (by omega))
  refine ⟨hc, c_great (by omega) fun u u0 u1 => ?_⟩
  refine c_pick (by simp) (by simp) ?_
  exact md_pick fun m md => h ⟨u - (1 + r), 1 + r, m⟩ ⟨by show -(10 * 12) ≤ u - (1 + r); omega, by show u - (1 + r) ≤ 10 * 12; omega, by show 1 ≤ 1 + r; omega, by show 1 + r ≤ 12; omega, md⟩
theorem all_3 {P : D → Prop} {x y z : D} (h1 : P x) (h2 : P y) (h3 : P z) : ∀ d ∈ [x, y, z], P d := all3 h1 h2 h3
theorem Small.up {A : Sde} (h : Small A 12) : Small A 60 := ⟨by have := h.o1; omega, by have := h.o2; omega, h.s1, by have := h.s2; omega, h.md⟩
theorem c_two (h : ∀ A B, Small A 60 → Small B 60 → Q (.tup [A.d, B.d])) : m_law_two [.src] Q W := by
  simp [m_law_two]
  refine c_side fun A hA => c_side fun B hB => ?_
  simp [Sde.d]
  intro w w0 w1
  have hA2 : Small A 60 := hA.up
  have fin : ∀ o s m, Small ⟨o, s, m⟩ 60 → ∀ r : Int, 0 ≤ r → r < 2 → if r = 0 then Q (D.tup [D.tup [D.int o, D.int s, D.str m], D.tup [D.int A.o, D.int A.s, D.str A.m]]) else Q (D.tup [D.tup [D.int A.o, D.int A.s, D.str A.m], D.tup [D.int o, D.int s, D.str m]]) := by
    intro o s m hB r _ _
    split
    · exact h ⟨o, s, m⟩ A hB hA2
    · exact h A ⟨o, s, m⟩ hA2 hB
  obtain ⟨a1, a2, a3, a4, a5⟩ := hA
  by_cases c : 0 < w
  · rw [if_pos c]
    refine c_pick (by simp) (by simp) ?_
    have key : ∀ m, IsMd m → ∀ (r : Int), 0 ≤ r → r < 5 → CMulW A.s (r - 2) ∧ ∀ (r_1 : Int), 0 ≤ r_1 → r_1 < 5 → CMulW A.s (1 + r_1) ∧
        if w = 3 then m_law_pick [D.src, D.lst [D.int 0, D.int 1, D.int (A.s / 2)]] (fun y => dAdd (D.int (A.o + A.s * (r - 2))) y fun x => ∀ (r : Int), 0 ≤ r → r < 2 → if r = 0 then Q (D.tup [D.tup [x, D.int (A.s * (1 + r_1)), .str m], D.tup [D.int A.o, D.int A.s, D.str A.m]])
              else Q (D.tup [D.tup [D.int A.o, D.int A.s, D.str A.m], D.tup [x, D.int (A.s * (1 + r_1)), .str m]])) fun x => W x
        else ∀ (r_2 : Int), 0 ≤ r_2 → r_2 < 2 → if r_2 = 0 then Q (D.tup [D.tup [D.int (A.o + A.s * (r - 2)), D.int (A.s * (1 + r_1)), .str m], D.tup [D.int A.o, D.int A.s, D.str A.m]])
              else Q (D.tup [D.tup [D.int A.o, D.int A.s, D.str A.m], D.tup [D.int (A.o + A.s * (r - 2)), D.int (A.s * (1 + r_1)), .str m]]) := by
      intro m md r r0 r1
      have m1 := mul_bd (a := A.s) (b := r - 2) (A := 12) (B := 2) (by omega) a4 (by omega) (by omega)
      refine ⟨cmul (sm_of (by omega) (by omega)) (sm_of (by omega) (by omega)), fun t t0 t1 => ?_⟩
      have m2 := mul_bd (a := A.s) (b := 1 + t) (A := 12) (B := 5) (by omega) a4 (by omega) (by omega)
      have m3 := mul_mono a3 (show 1 ≤ 1 + t by omega)
      refine ⟨cmul (sm_of (by omega) (by omega)) (sm_of (by omega) (by omega)), ?_⟩
      generalize A.s * (r - 2) = p at *
      generalize A.s * (1 + t) = u at *
      have sm : ∀ z : Int, 0 ≤ z → z ≤ 12 → Small ⟨A.o + p + z, u, m⟩ 60 := fun z z0 z1 => ⟨by show -(10 * 60) ≤ A.o + p + z; omega, by show A.o + p + z ≤ 10 * 60; omega, by show 1 ≤ u; omega, by show u ≤ 60; omega, md⟩
      split
      · refine c_pick (by simp) (by simp) ?_
        refine all3 ?_ ?_ ?_
        · rw [dAdd_ii]; exact fin _ _ _ (sm 0 (by omega) (by omega))
        · rw [dAdd_ii]; exact fin _ _ _ (sm 1 (by omega) (by omega))
        · rw [dAdd_ii]; exact fin _ _ _ (sm (A.s / 2) (by omega) (by omega))
      · have := sm 0 (by omega) (by omega)
        rw [Int.add_zero] at this
        exact fin _ _ _ this
    exact all3 (key _ a5) (key _ a5) (key _ hB.md)
  · rw [if_neg c, if_neg (by omega)]
    exact fin _ _ _ hB.up
theorem Small.ok {A : Sde} (h : Small A 60) : SOk A.o A.s A.m := ⟨by have := h.o1; omega, by have := h.o2; omega, h.s1, by have := h.s2; omega, h.md⟩
theorem e_differs {A B : Sde} (SA : SOk A.o A.s A.m) (SB : SOk B.o B.s B.m) (h1 : -(10 ^ 70) ≤ v) (h2 : v ≤ 10 ^ 70) : m_law_differs [A.d, B.d, .int v] Q W = Q (.bl (!decide (B.h (A.h v) = A.h (B.h v)))) := by
  have bA := A.hbd SA.s1 (v := v)
  have bB := B.hbd SB.s1 (v := v)
  have a2 := SA.s2; have b2 := SB.s2
  have e1 := fun Q W => e_law_written (Q := Q) (W := W) SA (v := v) (by omega) (by omega)
  have e2 := fun Q W => e_law_written (Q := Q) (W := W) SB (v := v) (by omega) (by omega)
  have e3 := fun Q W => e_law_written (Q := Q) (W := W) SB (v := A.h v) (by omega) (by omega)
  have e4 := fun Q W => e_law_written (Q := Q) (W := W) SA (v := B.h v) (by omega) (by omega)
  unfold Sde.h at e3 e4
  simp [m_law_differs, Sde.d, e1, e2, e3, e4]
  rfl
end
end Hm
set_option Elab.async false
set_option linter.all false
set_option maxRecDepth 100000
set_option maxHeartbeats 4000000
namespace Hm
open PySem L2
section
variable {o s k v i : Int} {m x : Str} {b : Bool} {xs : List D} {Q : DK} {W : XKD} {A B F C : Sde}
theorem up_per {s q r j : Int} {m : Str} : Up s m (q + 2 * j) r = Up s m q r := by
  have e : ((q + 2 * j + 1) % 2 = 0) = ((q + 1) % 2 = 0) := by apply propext; omega
  unfold Up
  simp only [e]
theorem Sde.hper (hs : 1 ≤ A.s) (j : Int) : A.h (v + 2 * (A.s * j)) = A.h v + 2 * (A.s * j) := by
  obtain ⟨q, r, hv, r0, r1, _⟩ := place A.o hs v
  unfold Sde.h
  rw [hand_at (m := A.m) hs hv r0 r1, hand_at (m := A.m) hs (q := q + 2 * j) (r := r) (by rw [Int.mul_add, Int.mul_left_comm A.s 2 j]; omega) r0 r1, up_per, Int.mul_add, Int.mul_left_comm A.s 2 j]
  omega
theorem dif_per (hA : 1 ≤ A.s) (hB : 1 ≤ B.s) (n : Int) : dif A B (v + n * (2 * A.s * B.s)) ↔ dif A B v := by
  have e1 : n * (2 * A.s * B.s) = 2 * (A.s * (n * B.s)) := by rw [Int.mul_assoc 2, Int.mul_left_comm n 2, Int.mul_left_comm n A.s]
  have e2 : 2 * (A.s * (n * B.s)) = 2 * (B.s * (n * A.s)) := by rw [Int.mul_left_comm A.s n, Int.mul_left_comm B.s n, Int.mul_comm A.s B.s]
  unfold dif
  rw [e1, A.hper hA, e2, B.hper hB, B.hper hB]
  rw [← e2, A.hper hA, e2]
  omega
theorem dif_symm : dif A B v ↔ dif B A v := ⟨fun h => h.symm, fun h => h.symm⟩
/-- what exchange is asked for -/
def Spec (A B : Sde) (v : Int) : Option Int → Prop
  | some x => v ≤ x ∧ dif A B x ∧ ∀ y, v ≤ y → y < x → ¬ dif A B y
  | none => ∀ y, ¬ dif A B y
theorem spec_one {d e : Option Int} (h1 : Spec A B v d) (h2 : Spec A B v e) : d = e := by
  cases d with
  | none =>
    cases e with
    | none => rfl
    | some y => exact absurd h2.2.1 (h1 y)
  | some x =>
    cases e with
    | none => exact absurd h1.2.1 (h2 x)
    | some y =>
      obtain ⟨a1, a2, a3⟩ := h1
      obtain ⟨b1, b2, b3⟩ := h2
      have c1 : ¬ x < y := fun z => b3 x a1 z a2
      have c2 : ¬ y < x := fun z => a3 y b1 z b2
      rw [show x = y by omega]
theorem exch_spec (hA : 1 ≤ A.s) (hB : 1 ≤ B.s) : Spec A B v (exchF A B v) := by
  have key : ∀ F C : Sde, 1 ≤ F.s → 1 ≤ C.s → F.s ≤ C.s → Spec F C v (exch F C v 8 (C.f v)) := fun F C hF hC hFC => by
    have ic := C.inCell hC v
    cases e : exch F C v 8 (C.f v) with
    | none => exact none_all hF hC hFC fun y h1 h2 => exch_none hF hC hFC e y h1 (by omega) h2
    | some x =>
      obtain ⟨a, b, c, d⟩ := exch_some hF hC hFC e
      exact ⟨a, c, fun y h1 h2 => d y h1 (by omega) h2⟩
  unfold exchF fineOf coarseOf
  by_cases c : A.s ≤ B.s
  · simp only [if_pos c]; exact key A B hA hB c
  · simp only [if_neg c]
    have := key B A hB hA (by omega)
    generalize exch B A v 8 (A.f v) = d at *
    cases d with
    | none => exact fun y z => this y (dif_symm.mp z)
    | some x => exact ⟨this.1, dif_symm.mp this.2.1, fun y h1 h2 z => this.2.2 y h1 h2 (dif_symm.mp z)⟩
theorem spec_move (hA : 1 ≤ A.s) (hB : 1 ≤ B.s) (n : Int) {x : Int} (h : Spec A B v (some x)) : Spec A B (v + n * (2 * A.s * B.s)) (some (x + n * (2 * A.s * B.s))) := by
  refine ⟨by have := h.1; omega, (dif_per hA hB n).mpr h.2.1, fun y h1 h2 z => ?_⟩
  refine h.2.2 (y - n * (2 * A.s * B.s)) (by omega) (by omega) ?_
  have := (dif_per hA hB n (v := y - n * (2 * A.s * B.s)))
  rw [Int.sub_add_cancel] at this
  exact this.mp z
/-- the marks of a period -/
def upTo (P : Nat) : List Int := (List.range P).map fun n : Nat => (n : Int)
theorem upTo_mem {P : Nat} {z : Int} : z ∈ upTo P ↔ 0 ≤ z ∧ z < P := by
  unfold upTo
  rw [List.mem_map]
  constructor
  · rintro ⟨n, hn, rfl⟩
    have := List.mem_range.mp hn
    omega
  · rintro ⟨h1, h2⟩
    exact ⟨z.toNat, List.mem_range.mpr (by omega), by omega⟩
theorem upTo_sorted (P : Nat) : (upTo P).Pairwise (· < ·) := by
  unfold upTo
  rw [List.pairwise_map]
  exact List.Pairwise.imp (fun h => by omega) List.pairwise_lt_range
theorem head_least {l : List Int} {x y : Int} (hs : l.Pairwise (· < ·)) (hx : l.head? = some x) (hy : y ∈ l) : x ≤ y := by
  cases l with
  | nil => cases hx
  | cons a r =>
    cases hx
    rcases List.mem_cons.mp hy with rfl | h
    · exact Int.le_refl _
    · exact Int.le_of_lt ((List.pairwise_cons.mp hs).1 y h)
def duef (ms : List Int) (P : Nat) (v : Int) : Option Int := (ms.filter (fun z => decide (v ≤ z)) ++ ms.map (fun z : Int => z + (P : Int))).head?
theorem due_spec (hA : 1 ≤ A.s) (hB : 1 ≤ B.s) {P : Nat} (hP : (P : Int) = 2 * A.s * B.s) (h0 : 0 ≤ v) (h1 : v < P) {ms : List Int} (hm : ∀ z, z ∈ ms ↔ (0 ≤ z ∧ z < P) ∧ dif A B z) (hs : ms.Pairwise (· < ·)) : Spec A B v (duef ms P v) := by
  have per : ∀ z n : Int, dif A B (z + n * P) ↔ dif A B z := fun z n => by rw [hP]; exact dif_per hA hB n
  unfold duef
  rw [List.head?_append]
  cases e : (ms.filter fun z => decide (v ≤ z)).head? with
  | some x =>
    have hx := List.mem_of_head? e
    rw [List.mem_filter] at hx
    have hx2 := (hm x).mp hx.1
    have hv : v ≤ x := of_decide_eq_true hx.2
    refine ⟨hv, hx2.2, fun y h2 h3 z => ?_⟩
    have : y ∈ ms.filter fun z => decide (v ≤ z) := List.mem_filter.mpr ⟨(hm y).mpr ⟨by omega, z⟩, decide_eq_true h2⟩
    have := head_least (hs.filter _) e this
    omega
  | none =>
    have em : ms.filter (fun z => decide (v ≤ z)) = [] := List.head?_eq_none_iff.mp e
    have nov : ∀ z, v ≤ z → z < P → ¬ dif A B z := fun z h2 h3 h4 => by
      have : z ∈ ms.filter fun z => decide (v ≤ z) := List.mem_filter.mpr ⟨(hm z).mpr ⟨by omega, h4⟩, decide_eq_true h2⟩
      rw [em] at this; cases this
    show Spec A B v (none.or (ms.map fun z => z + (P : Int)).head?)
    rw [Option.none_or, List.head?_map]
    cases e2 : ms.head? with
    | none =>
      have en : ms = [] := List.head?_eq_none_iff.mp e2
      intro y hy
      have hp : 0 < (P : Int) := by omega
      have q := Int.mul_ediv_add_emod y P
      have r0 := Int.emod_nonneg y (show (P : Int) ≠ 0 by omega)
      have r1 := Int.emod_lt_of_pos y hp
      have : y % P ∈ ms := (hm _).mpr ⟨⟨r0, r1⟩, (per (y % P) (y / P)).mp (by rw [Int.mul_comm (y / P)]; rw [show y % P + P * (y / P) = y by omega]; exact hy)⟩
      rw [en] at this; cases this
    | some x =>
      have hx := (hm x).mp (List.mem_of_head? e2)
      refine ⟨by show v ≤ x + P; omega, (by have := (per x 1).mpr hx.2; rw [Int.one_mul] at this; exact this), fun y h2 h3' z => ?_⟩
      have h3 : y < x + P := h3'
      by_cases c : y < P
      · exact nov y h2 c z
      · have z2 : dif A B (y - P) := (per (y - P) 1).mp (by rw [Int.one_mul, Int.sub_add_cancel]; exact z)
        have := head_least hs e2 ((hm (y - P)).mpr ⟨by omega, z2⟩)
        omega
end
end Hm
set_option Elab.async false
set_option linter.all false
set_option maxRecDepth 100000
set_option maxHeartbeats 4000000
namespace Hm
open PySem L2
section
variable {o s k v i : Int} {m x : Str} {b : Bool} {xs : List D} {Q : DK} {W : XKD} {A B F C : Sde}
theorem lc_nil (g : MG) (t : MT) (e : ME) (ρ : Rho) (acc : List D) (Q : List D → Prop) : mLcL g t e ρ [] acc Q = Q acc := Eq.trans rfl rfl
theorem lc_cons (g : MG) (t : MT) (e : ME) (ρ : Rho) (x : D) (r acc : List D) (Q : List D → Prop) : mLcL g t e ρ (x :: r) acc Q = (g x ρ fun ρ' => t ρ' (fun b => if b = true then e ρ' (fun y => acc.length < sizeLine ∧ mLcL g t e ρ r (acc ++ [y]) Q) (fun _ => False) else mLcL g t e ρ r acc Q) (fun _ => False)) := Eq.trans rfl rfl
instance : Decidable (dif A B v) := inferInstanceAs (Decidable (_ ≠ _))
/-- a comprehension over ints -/
theorem lcInts {g : MG} {t : MT} {e : ME} {ρ : Rho} {ns : List Int} {Q : List D → Prop} (p : Int → Bool) (F : Int → Int) (hz : ns.length ≤ sizeLine) (hd : Q (((ns.filter p).map F).map D.int))
    (hs : ∀ n ∈ ns, ∀ (k1 : DK) (k0 : Prop), (if p n = true then k1 (.int (F n)) else k0) → g (.int n) ρ fun ρ' => t ρ' (fun b => if b = true then e ρ' k1 (fun _ => False) else k0) (fun _ => False)) : mLcL g t e ρ (ns.map D.int) [] Q := by
  refine lcI (by rw [List.length_map]; exact hz) (fun i acc => acc = (((ns.take i).filter p).map F).map D.int) (by simp) (fun acc h => ?_) (fun i acc h => ?_) (fun i x acc k hx h hl hk => ?_)
  · rw [h, List.length_map, List.take_length]; exact hd
  · rw [h, List.length_map, List.length_map]
    exact Nat.le_trans (List.length_filter_le _ _) (by rw [List.length_take]; omega)
  · rw [List.getElem?_map] at hx
    obtain ⟨n, hn, rfl⟩ := Option.map_eq_some_iff.mp hx
    refine hs n (List.mem_of_getElem? hn) _ _ ?_
    have e1 : ns.take (i + 1) = ns.take i ++ [n] := by rw [List.take_add_one, hn]; rfl
    by_cases c : p n = true
    · rw [if_pos c]
      refine ⟨hl, hk _ ?_⟩
      rw [e1, List.filter_append, List.map_append, List.map_append, h]
      simp [c]
    · rw [if_neg c]
      refine hk _ ?_
      rw [e1, List.filter_append, List.map_append, List.map_append, h]
      simp [c]
theorem rng_ints {P : Nat} : rngD 0 P = (upTo P).map D.int := by
  unfold rngD upTo
  rw [List.map_map]
  congr 1
  funext n
  simp
theorem ne_oint {a b : Option Int} {Q : DK} : dNe (oint a) (oint b) Q = Q (.bl (!decide (a = b))) := by
  cases a <;> cases b
  · exact Eq.trans rfl rfl
  · exact Eq.trans rfl rfl
  · exact Eq.trans rfl rfl
  · rename_i x y
    have := ne_ii (i := x) (j := y) (Q := Q)
    simp only [oint, this, Option.some.injEq]
theorem fsm (hA : Small A 60) (h1 : -20000 * 20 ≤ v) (h2 : v ≤ 20000 * 20) : -(2 ^ 61) ≤ A.f v ∧ A.f v ≤ 2 ^ 61 := by
  have hb := div_bd (x := v - A.o) (b := 2 ^ 60) hA.s1 (by have := hA.o2; omega) (by have := hA.o1; omega)
  unfold Sde.f figf
  split <;> omega
theorem csm (hA : Small A 60) (hB : Small B 60) (h1 : -20000 * 20 ≤ v) (h2 : v ≤ 20000 * 20) : -(2 ^ 61) ≤ (coarseOf A B).f v ∧ (coarseOf A B).f v ≤ 2 ^ 61 := by
  unfold coarseOf
  split
  · exact fsm hB h1 h2
  · exact fsm hA h1 h2
theorem ix_due {l1 l2 : List Int} {P : Nat} {Q : DK} : dIx (.lst (List.map D.int l1 ++ (List.map (D.int ∘ fun z => z + (P : Int)) l2 ++ [D.non]))) (.int 0) Q = Q (oint ((l1 ++ l2.map fun z => z + (P : Int)).head?)) := by
  cases l1 with
  | nil =>
    cases l2 with
    | nil => simp [oint]
    | cons a r => simp [oint]
  | cons a r => simp [oint]
theorem pures_ints : ∀ ms : List Int, pures (ms.map D.int) = true
  | [] => rfl
  | _ :: r => by rw [List.map_cons]; show (true && pures (r.map D.int)) = true; rw [pures_ints r]; rfl
theorem lay_ints : ∀ ms : List Int, PyData.canLayAll0 (pys (ms.map D.int)) = true
  | [] => by simp [pys, PyData.canLayAll0]
  | a :: r => by
    have := lay_ints r
    simp only [List.map_cons, pys, D.py, PyData.canLayAll0, PyData.canLay0, this, Bool.and_self]
theorem dep_ints : ∀ ms : List Int, PyData.depthAll (pys (ms.map D.int)) ≤ 1
  | [] => by simp [pys, PyData.depthAll]
  | a :: r => by
    have := dep_ints r
    simp only [List.map_cons, pys, D.py, PyData.depthAll, PyData.depth]
    omega
theorem okE_ints (ms : List Int) : (D.lst (ms.map D.int)).okE = true := by
  have h1 := pures_ints ms
  have h2 := lay_ints ms
  have h3 := dep_ints ms
  unfold D.okE SeqAt.shaped
  simp only [D.pure, h1, D.py, PyData.canLay0, h2, PyData.depth, Bool.true_and, decide_eq_true_eq]
  omega
theorem eqv_nil {ms : List Int} : (D.lst (ms.map D.int)).eqv (D.lst []) = decide (ms = []) := by
  cases ms with
  | nil => simp [D.eqv, D.py, pys, PyData.eqv, PyData.eqvAll]
  | cons a r => simp [D.eqv, D.py, pys, PyData.eqv, PyData.eqvAll]
theorem w_side {a b c : D} (h : ∀ Q W, m_exchange [a, b, c] Q W = W ⟨"InvalidSide", []⟩) : m_law_word [a, b, c] Q W = Q (.str "side") := by
  simp [m_law_word, h, D.isN, D.flat, idxD, D.eqF, List.findIdx?_cons, List.countP_cons]
theorem w_value {a b c : D} (h : ∀ Q W, m_exchange [a, b, c] Q W = W ⟨"InvalidValue", []⟩) : m_law_word [a, b, c] Q W = Q (.str "value") := by
  simp [m_law_word, h, D.isN, D.flat, idxD, D.eqF, List.findIdx?_cons, List.countP_cons]
theorem ck_bad {d : D} (h : ∀ Q W, m_is_side [d] Q W = Q (.bl false)) : m_check_side [d] Q W = W ⟨"InvalidSide", []⟩ := by simp [m_check_side, h]
theorem x_bad1 {d b c : D} (h : ∀ Q W, m_is_side [d] Q W = Q (.bl false)) : m_exchange [d, b, c] Q W = W ⟨"InvalidSide", []⟩ := by simp [m_exchange, ck_bad h]
theorem good5 : SOk 0 5 "half_even" := ⟨by decide, by decide, by decide, by decide, .inr (.inr (.inr (.inr rfl)))⟩
abbrev g5 : D := D.tup [D.int 0, D.int 5, D.str "half_even"]
theorem x_bad2 {d c : D} (h : ∀ Q W, m_is_side [d] Q W = Q (.bl false)) : m_exchange [g5, d, c] Q W = W ⟨"InvalidSide", []⟩ := by
  have e := fun Q W => e_check_side (Q := Q) (W := W) good5
  simp [m_exchange, ck_bad h, e]
theorem x_bad3 {c : D} (h : ∀ Q W, m_is_integer [c] Q W = Q (.bl false)) : m_exchange [g5, g5, c] Q W = W ⟨"InvalidValue", []⟩ := by
  have e := fun Q W => e_check_side (Q := Q) (W := W) good5
  simp [m_exchange, m_check_value, h, e]
def bads : List D := [.non, .int 7, .tup [.int 0, .int 0, .str "up"], .tup [.int 0, .int 5, .str "near"], .lst [.int 0, .int 5, .str "up"], .tup [.bl true, .int 5, .str "up"], .tup [.int 0, .int 5], .str "up", .lst [g5]]
theorem beq_str {a b : String} : (Str.ofString a == Str.ofString b) = decide (a = b) := by
  rw [Bool.eq_iff_iff]
  simp
theorem bad_is : ∀ d ∈ bads, ∀ Q W, m_is_side [d] Q W = Q (.bl false) := by
  intro d hd Q W
  simp only [bads, List.mem_cons, List.not_mem_nil, or_false] at hd
  rcases hd with rfl | rfl | rfl | rfl | rfl | rfl | rfl | rfl | rfl <;> simp [m_is_side, k_MODES, k_GREATEST_OFFSET, k_GREATEST_STEP, D.isIn, D.flat, D.eqF, beq_str]
theorem doors (h : Q (.bl true)) : m_law_doors_right [g5] Q W := by
  have b := bad_is
  simp only [bads, List.forall_mem_cons] at b
  obtain ⟨b1, b2, b3, b4, b5, b6, b7, b8, b9, _⟩ := b
  have p1 := fun Q W => w_side (Q := Q) (W := W) (fun Q W => x_bad1 (Q := Q) (W := W) (b := g5) (c := .non) b1)
  have q1 := fun Q W => w_side (Q := Q) (W := W) (fun Q W => x_bad2 (Q := Q) (W := W) (c := .non) b1)
  have p2 := fun Q W => w_side (Q := Q) (W := W) (fun Q W => x_bad1 (Q := Q) (W := W) (b := g5) (c := .non) b2)
  have q2 := fun Q W => w_side (Q := Q) (W := W) (fun Q W => x_bad2 (Q := Q) (W := W) (c := .non) b2)
  have p3 := fun Q W => w_side (Q := Q) (W := W) (fun Q W => x_bad1 (Q := Q) (W := W) (b := g5) (c := .non) b3)
  have q3 := fun Q W => w_side (Q := Q) (W := W) (fun Q W => x_bad2 (Q := Q) (W := W) (c := .non) b3)
  have p4 := fun Q W => w_side (Q := Q) (W := W) (fun Q W => x_bad1 (Q := Q) (W := W) (b := g5) (c := .non) b4)
  have q4 := fun Q W => w_side (Q := Q) (W := W) (fun Q W => x_bad2 (Q := Q) (W := W) (c := .non) b4)
  have p5 := fun Q W => w_side (Q := Q) (W := W) (fun Q W => x_bad1 (Q := Q) (W := W) (b := g5) (c := .non) b5)
  have q5 := fun Q W => w_side (Q := Q) (W := W) (fun Q W => x_bad2 (Q := Q) (W := W) (c := .non) b5)
  have p6 := fun Q W => w_side (Q := Q) (W := W) (fun Q W => x_bad1 (Q := Q) (W := W) (b := g5) (c := .non) b6)
  have q6 := fun Q W => w_side (Q := Q) (W := W) (fun Q W => x_bad2 (Q := Q) (W := W) (c := .non) b6)
  have p7 := fun Q W => w_side (Q := Q) (W := W) (fun Q W => x_bad1 (Q := Q) (W := W) (b := g5) (c := .non) b7)
  have q7 := fun Q W => w_side (Q := Q) (W := W) (fun Q W => x_bad2 (Q := Q) (W := W) (c := .non) b7)
  have p8 := fun Q W => w_side (Q := Q) (W := W) (fun Q W => x_bad1 (Q := Q) (W := W) (b := g5) (c := .non) b8)
  have q8 := fun Q W => w_side (Q := Q) (W := W) (fun Q W => x_bad2 (Q := Q) (W := W) (c := .non) b8)
  have p9 := fun Q W => w_side (Q := Q) (W := W) (fun Q W => x_bad1 (Q := Q) (W := W) (b := g5) (c := .non) b9)
  have q9 := fun Q W => w_side (Q := Q) (W := W) (fun Q W => x_bad2 (Q := Q) (W := W) (c := .non) b9)
  have v0 := fun Q W => w_value (Q := Q) (W := W) (fun Q W => x_bad3 (Q := Q) (W := W) (c := .non) (fun Q W => by simp))
  have v1 := fun Q W => w_value (Q := Q) (W := W) (fun Q W => x_bad3 (Q := Q) (W := W) (c := .bl true) (fun Q W => by simp))
  have v2 := fun Q W => w_value (Q := Q) (W := W) (fun Q W => x_bad3 (Q := Q) (W := W) (c := .bl false) (fun Q W => by simp))
  have v3 := fun Q W => w_value (Q := Q) (W := W) (fun Q W => x_bad3 (Q := Q) (W := W) (c := .str "0") (fun Q W => by simp))
  have v4 := fun Q W => w_value (Q := Q) (W := W) (fun Q W => x_bad3 (Q := Q) (W := W) (c := .lst []) (fun Q W => by simp))
  have v5 := fun Q W => w_value (Q := Q) (W := W) (fun Q W => x_bad3 (Q := Q) (W := W) (c := .tup [.int 1]) (fun Q W => by simp))
  simp [m_law_doors_right, lc_nil, lc_cons, p1, q1, p2, q2, p3, q3, p4, q4, p5, q5, p6, q6, p7, q7, p8, q8, p9, q9, v0, v1, v2, v3, v4, v5]
  refine ⟨by decide +kernel, ?_⟩
  rw [show ((D.lst [D.str "value", D.str "value", D.str "value", D.str "value", D.str "value", D.str "value"]).eqv (D.lst [D.str "value", D.str "value", D.str "value", D.str "value", D.str "value", D.str "value"])) = true by decide +kernel]
  exact h
theorem law_true : m_law (.un :: .dat .src :: List.replicate 9 .un) { nx := fun _ => False, rt := fun d => ∃ b, d = .bl b ∧ b = true, bk := fun _ => False, ct := fun _ => False, ex := fun _ _ => False } := by
  simp [m_law]
  refine forR (fun _ ρ => ∃ a b c d e f g h i, ρ = [.un, .dat .src, a, b, c, d, e, f, g, h, i]) ⟨_, _, _, _, _, _, _, _, _, rfl⟩ ?_ ?_
  · rintro ρ -
    have one : ∀ (a b c d : Int) (m n : Str) (e : Option Int) (Q : DK) (W : XKD), (1 ≤ b ∧ b ≤ 100) → (1 ≤ d ∧ d ≤ 100) → a = 0 → c = 0 → IsMd m → IsMd n → exchF ⟨a, b, m⟩ ⟨c, d, n⟩ 0 = e → ((coarseOf ⟨a, b, m⟩ ⟨c, d, n⟩).f 0 = 0) → Q (oint e) → m_exchange [D.tup [.int a, .int b, .str m], D.tup [.int c, .int d, .str n], .int 0] Q W := by
      intro a b c d m n e Q W hb hd ha hc hm hn he hf h
      refine c_exchange (A := ⟨a, b, m⟩) (B := ⟨c, d, n⟩) ⟨by show -(10 ^ 40) ≤ a; omega, by show a ≤ 10 ^ 40; omega, hb.1, by show b ≤ 10 ^ 30; omega, hm⟩ ⟨by show -(10 ^ 40) ≤ c; omega, by show c ≤ 10 ^ 40; omega, hd.1, by show d ≤ 10 ^ 30; omega, hn⟩ (by omega) (by omega) (by rw [hf]; omega) ?_
      rw [he]; exact h
    refine one _ _ _ _ _ _ (some 6) _ _ (by omega) (by omega) rfl rfl (.inl rfl) (.inl rfl) (by decide +kernel) (by decide +kernel) ?_
    simp [oint]
    refine one _ _ _ _ _ _ none _ _ (by omega) (by omega) rfl rfl (.inr (.inr (.inr (.inl rfl)))) (.inr (.inr (.inr (.inl rfl)))) (by decide +kernel) (by decide +kernel) ?_
    refine ⟨rfl, ?_⟩
    refine one _ _ _ _ _ _ (some 45) _ _ (by omega) (by omega) rfl rfl (.inr (.inr (.inr (.inl rfl)))) (.inr (.inr (.inr (.inl rfl)))) (by decide +kernel) (by decide +kernel) ?_
    simp [oint]
    exact doors rfl
  · rintro i ρ kk - ⟨a, b, c, d, e, f, g, h, i', rfl⟩ hkk
    simp [-mForL_cons]
    refine c_two fun A B hA hB => ?_
    obtain ⟨ao1, ao2, as1, as2, amd⟩ := id hA
    obtain ⟨bo1, bo2, bs1, bs2, bmd⟩ := id hB
    have m1 : CMulW 2 A.s := cmul (sm_lit (by decide)) (sm_of (by omega) (by omega))
    have m2 : CMulW (2 * A.s) B.s := cmul (sm_of (by omega) (by omega)) (sm_of (by omega) (by omega))
    simp [Sde.d, setAll, m1, m2, -mForL_cons]
    have pb := mul_bd (a := 2 * A.s) (b := B.s) (A := 120) (B := 60) (by omega) (by omega) (by omega) (by omega)
    have pp := mul_mono (s := 2 * A.s) (by omega) bs1
    obtain ⟨P, hP⟩ : ∃ P : Nat, (P : Int) = 2 * A.s * B.s := ⟨(2 * A.s * B.s).toNat, by omega⟩
    rw [← hP] at pb pp ⊢
    refine ⟨by omega, ?_⟩
    rw [show (P : Int).toNat = P by omega, rng_ints]
    refine lcInts (fun z => decide (dif A B z)) id ?_ ?_ ?_
    · unfold upTo; rw [List.length_map, List.length_range, sizeLine_eq]; omega
    · rw [List.map_id]
      generalize hms : (upTo P).filter (fun z => decide (dif A B z)) = ms
      have hm : ∀ z, z ∈ ms ↔ (0 ≤ z ∧ z < P) ∧ dif A B z := fun z => by rw [← hms, List.mem_filter, upTo_mem, decide_eq_true_eq]
      have hs : ms.Pairwise (· < ·) := hms ▸ (upTo_sorted P).filter _
      have ml : ms.length ≤ 7200 := by
        rw [← hms]
        refine Nat.le_trans (List.length_filter_le _ _) ?_
        unfold upTo; rw [List.length_map, List.length_range]; omega
      simp [-mForL_cons]
      have P0 : 0 < P ∧ (P : Int) < 1606938044258990275541962092341162602522202993782792835301376 := by omega
      refine ⟨P0, fun r r0 r1 => ⟨P0, fun r' r0' r1' => ?_⟩⟩
      have m7 : CMulW 7 P := cmul (sm_lit (by decide)) (sm_of (by omega) (by omega))
      have sA := hA.ok
      have sB := hB.ok
      refine forL (fun _ ρ => ∃ f g h i', ρ = [Sl.un, Sl.dat D.src, Sl.dat (D.int ↑i), Sl.dat (D.tup [D.int A.o, D.int A.s, D.str A.m]), Sl.dat (D.tup [D.int B.o, D.int B.s, D.str B.m]), Sl.dat (D.int ↑P), Sl.dat (D.lst (List.map D.int ms)), f, g, h, i']) ⟨_, _, _, _, rfl⟩ ?_ ?_
      · rintro ρ ⟨f, g, h, i', rfl⟩
        exact hkk _ ⟨_, _, _, _, _, _, _, _, _, rfl⟩
      · rintro j y ρ k2 hy ⟨f, g, h, i', rfl⟩ hk2
        have hyy := List.mem_of_getElem? hy
        obtain ⟨w, rfl, w0, w1⟩ : ∃ w : Int, y = .int w ∧ 0 ≤ w ∧ w < P := by
          simp only [List.mem_cons, List.not_mem_nil, or_false] at hyy
          rcases hyy with rfl | rfl | rfl | rfl
          · exact ⟨_, rfl, by omega, by omega⟩
          · exact ⟨_, rfl, by omega, by omega⟩
          · exact ⟨_, rfl, by omega, by omega⟩
          · exact ⟨_, rfl, by omega, by omega⟩
        simp
        refine lcInts (fun z => decide (w ≤ z)) id (by rw [sizeLine_eq]; omega) ?_ ?_
        · refine lcInts (fun _ => true) (fun z => z + (P : Int)) (by rw [sizeLine_eq]; omega) ?_ ?_
          · simp
            have el : ms.filter (fun _ => true) = ms := List.filter_eq_self.mpr fun _ _ => rfl
            have fl := List.length_filter_le (fun z => decide (w ≤ z)) ms
            rw [el]
            refine ⟨by omega, by omega, ?_⟩
            rw [ix_due]
            have ds := due_spec (v := w) as1 bs1 hP w0 w1 hm hs
            have ex1 : exchF A B w = duef ms P w := spec_one (exch_spec as1 bs1) ds
            have ex2 : exchF B A w = duef ms P w := by
              have q : Spec A B w (exchF B A w) := by
                have q := exch_spec (v := w) bs1 as1
                generalize exchF B A w = d at *
                cases d with
                | none => exact fun y z => q y (dif_symm.mp z)
                | some x => exact ⟨q.1, dif_symm.mp q.2.1, fun y h1 h2 z => q.2.2 y h1 h2 (dif_symm.mp z)⟩
              exact spec_one q ds
            rw [show ((List.filter (fun z => decide (w ≤ z)) ms) ++ ms.map fun z => z + (P : Int)).head? = duef ms P w from rfl]
            generalize duef ms P w = dd at *
            refine c_exchange (A := A) (B := B) sA sB (by omega) (by omega) (csm hA hB (by omega) (by omega)) ?_
            rw [ex1, ne_oint]
            simp
            refine c_exchange (A := B) (B := A) sB sA (by omega) (by omega) (csm hB hA (by omega) (by omega)) ?_
            rw [ex2, ne_oint]
            simp [okE_ints, eqv_nil]
            refine ⟨by decide +kernel, ?_⟩
            by_cases c : ms = []
            · rw [if_pos c]
              exact hk2 _ ⟨_, _, _, _, rfl⟩
            · rw [if_neg c]
              refine ⟨m7, ?_⟩
              have em : ∃ x, dd = some x := by
                cases dd with
                | some x => exact ⟨x, rfl⟩
                | none =>
                  cases ms with
                  | nil => exact absurd rfl c
                  | cons a r => exact absurd ((hm a).mp List.mem_cons_self).2 (ds a)
              obtain ⟨x, rfl⟩ := em
              have mv := spec_move as1 bs1 (-7) ds
              rw [← hP, show w + -7 * (P : Int) = w - 7 * P by omega, show x + -7 * (P : Int) = x - 7 * P by omega] at mv
              have ex3 : exchF A B (w - 7 * P) = some (x - 7 * P) := spec_one (exch_spec as1 bs1) mv
              refine c_exchange (A := A) (B := B) sA sB (by omega) (by omega) (csm hA hB (by omega) (by omega)) ?_
              rw [ex3]
              simp [oint, m7]
              exact hk2 _ ⟨_, _, _, _, rfl⟩
          · intro n hn k1 k0 hk
            simp at hk ⊢
            exact hk
        · intro n hn k1 k0 hk
          simp at hk ⊢
          exact hk
    · intro n hn k1 k0 hk
      have := upTo_mem.mp hn
      have ed := fun Q W => e_differs (Q := Q) (W := W) hA.ok hB.ok (v := n) (by omega) (by omega)
      unfold Sde.d at ed
      simp [ed]
      by_cases c : B.h (A.h n) = A.h (B.h n)
      · rw [if_pos c]
        rw [if_neg (by rw [decide_eq_true_eq]; exact fun z => z c)] at hk
        exact hk
      · rw [if_neg c]
        rw [if_pos (by rw [decide_eq_true_eq]; exact c)] at hk
        exact hk
end
end Hm
open PySem PySem.W PyProof.Rows
set_option maxRecDepth 100000 in
set_option maxHeartbeats 0 in
theorem PySem.Challenge.cw_handedtext_k14_exchange_holds : PySem.Challenge.rw_handedtext_k14_exchange.Holds := by
  w_on; o_law; k_head; (case hw => w_witness2)
  k_fill
  refine L2.walk_of (l := PySem.Challenge.rw_handedtext_k14_exchange) (n := 63) (k := 7) (x := "_law_script") (CX := fun w => L2.CX PySem.Challenge.rw_handedtext_k14_exchange.prog w) (sp := fun w => Hm.spLaw _ 9 Hm.m_law) rfl (by decide) rfl ⟨rfl, by decide, by decide⟩ (fun w h Y => PySem.W.kIn_of Y) ?F (fun _ _ a ns hl _ hS => ⟨a, ns, rfl, hS, hl, Hm.law_true, fun _ => rfl⟩) (fun w H s e s' h => Hm.cx_end h)
  case F =>
    intro w mg fa h KX G hmg
    refine' Hm.all_mk KX G hmg ?a0 ?l0 ?c0 ?k0 ?a1 ?l1 ?c1 ?k1 ?a2 ?l2 ?c2 ?k2 ?a3 ?l3 ?c3 ?k3 ?a4 ?l4 ?c4 ?k4 ?a5 ?l5 ?c5 ?k5 ?a6 ?l6 ?c6 ?k6 ?a7 ?l7 ?c7 ?k7 ?a8 ?l8 ?c8 ?k8 ?a9 ?l9 ?c9 ?k9 ?a10 ?l10 ?c10 ?k10 ?a11 ?l11 ?c11 ?k11 ?a12 ?l12 ?c12 ?k12 ?a13 ?l13 ?c13 ?k13 ?a14 ?l14 ?c14 ?k14 ?a15 ?l15 ?c15 ?k15 ?a16 ?l16 ?c16 ?k16 ?a17 ?l17 ?c17 ?k17 ?a18 ?l18 ?c18 ?k18 ?a19 ?l19 ?c19 ?k19 ?a20 ?l20 ?c20 ?k20 ?a21 ?l21 ?c21 ?k21 ?g_InvalidSide ?x_InvalidSide ?k_InvalidSide ?b_InvalidSide ?t_InvalidSide ?g_InvalidValue ?x_InvalidValue ?k_InvalidValue ?b_InvalidValue ?t_InvalidValue ?g_HandedError ?b_HandedError ?t_HandedError ?g_InvalidSides ?b_InvalidSides ?t_InvalidSides ?hd_HandedError ?hs_HandedError ?hd_InvalidSide ?hs_InvalidSide ?hd_InvalidSides ?hs_InvalidSides ?hd_InvalidValue ?hs_InvalidValue ?xn ?xt ?xg_InvalidSide ?xk_InvalidSide ?xa_InvalidSide ?xm_InvalidSide ?xg_InvalidValue ?xk_InvalidValue ?xa_InvalidValue ?xm_InvalidValue ?p_InvalidSide_HandedError ?p_InvalidSide_InvalidSide ?p_InvalidSide_InvalidSides ?p_InvalidSide_InvalidValue ?p_InvalidSide_ValueError ?p_InvalidValue_HandedError ?p_InvalidValue_InvalidSide ?p_InvalidValue_InvalidSides ?p_InvalidValue_InvalidValue ?p_InvalidValue_ValueError ?v_GREATEST_OFFSET ?v_GREATEST_STEP ?v_MODES ?w_MODES ?d_MODES ?q_MODES ?r_MODES ?v_TRIED ?z_ValueError ?z_abs ?z_bool ?z_int ?z_isinstance ?z_len ?z_max ?z_min ?z_range ?z_str ?z_tuple
    (case a0 => first | k_is | rfl | k_exc); (case l0 => first | k_is | rfl | k_exc); (case c0 => first | k_is | rfl | k_exc); (case k0 => first | k_is | rfl | k_exc); (case a1 => first | k_is | rfl | k_exc); (case l1 => first | k_is | rfl | k_exc); (case c1 => first | k_is | rfl | k_exc); (case k1 => first | k_is | rfl | k_exc); (case a2 => first | k_is | rfl | k_exc); (case l2 => first | k_is | rfl | k_exc); (case c2 => first | k_is | rfl | k_exc); (case k2 => first | k_is | rfl | k_exc); (case a3 => first | k_is | rfl | k_exc); (case l3 => first | k_is | rfl | k_exc); (case c3 => first | k_is | rfl | k_exc); (case k3 => first | k_is | rfl | k_exc); (case a4 => first | k_is | rfl | k_exc); (case l4 => first | k_is | rfl | k_exc); (case c4 => first | k_is | rfl | k_exc); (case k4 => first | k_is | rfl | k_exc); (case a5 => first | k_is | rfl | k_exc); (case l5 => first | k_is | rfl | k_exc); (case c5 => first | k_is | rfl | k_exc); (case k5 => first | k_is | rfl | k_exc); (case a6 => first | k_is | rfl | k_exc); (case l6 => first | k_is | rfl | k_exc); (case c6 => first | k_is | rfl | k_exc); (case k6 => first | k_is | rfl | k_exc); (case a7 => first | k_is | rfl | k_exc); (case l7 => first | k_is | rfl | k_exc); (case c7 => first | k_is | rfl | k_exc); (case k7 => first | k_is | rfl | k_exc); (case a8 => first | k_is | rfl | k_exc); (case l8 => first | k_is | rfl | k_exc); (case c8 => first | k_is | rfl | k_exc); (case k8 => first | k_is | rfl | k_exc); (case a9 => first | k_is | rfl | k_exc); (case l9 => first | k_is | rfl | k_exc); (case c9 => first | k_is | rfl | k_exc); (case k9 => first | k_is | rfl | k_exc); (case a10 => first | k_is | rfl | k_exc); (case l10 => first | k_is | rfl | k_exc); (case c10 => first | k_is | rfl | k_exc); (case k10 => first | k_is | rfl | k_exc); (case a11 => first | k_is | rfl | k_exc); (case l11 => first | k_is | rfl | k_exc); (case c11 => first | k_is | rfl | k_exc); (case k11 => first | k_is | rfl | k_exc); (case a12 => first | k_is | rfl | k_exc); (case l12 => first | k_is | rfl | k_exc); (case c12 => first | k_is | rfl | k_exc); (case k12 => first | k_is | rfl | k_exc); (case a13 => first | k_is | rfl | k_exc); (case l13 => first | k_is | rfl | k_exc); (case c13 => first | k_is | rfl | k_exc); (case k13 => first | k_is | rfl | k_exc); (case a14 => first | k_is | rfl | k_exc); (case l14 => first | k_is | rfl | k_exc); (case c14 => first | k_is | rfl | k_exc); (case k14 => first | k_is | rfl | k_exc); (case a15 => first | k_is | rfl | k_exc); (case l15 => first | k_is | rfl | k_exc); (case c15 => first | k_is | rfl | k_exc); (case k15 => first | k_is | rfl | k_exc); (case a16 => first | k_is | rfl | k_exc); (case l16 => first | k_is | rfl | k_exc); (case c16 => first | k_is | rfl | k_exc); (case k16 => first | k_is | rfl | k_exc); (case a17 => first | k_is | rfl | k_exc); (case l17 => first | k_is | rfl | k_exc); (case c17 => first | k_is | rfl | k_exc); (case k17 => first | k_is | rfl | k_exc); (case a18 => first | k_is | rfl | k_exc); (case l18 => first | k_is | rfl | k_exc); (case c18 => first | k_is | rfl | k_exc); (case k18 => first | k_is | rfl | k_exc); (case a19 => first | k_is | rfl | k_exc); (case l19 => first | k_is | rfl | k_exc); (case c19 => first | k_is | rfl | k_exc); (case k19 => first | k_is | rfl | k_exc); (case a20 => first | k_is | rfl | k_exc); (case l20 => first | k_is | rfl | k_exc); (case c20 => first | k_is | rfl | k_exc); (case k20 => first | k_is | rfl | k_exc); (case a21 => first | k_is | rfl | k_exc); (case l21 => first | k_is | rfl | k_exc); (case c21 => first | k_is | rfl | k_exc); (case k21 => first | k_is | rfl | k_exc); (case g_InvalidSide => first | k_is | rfl | k_exc); (case x_InvalidSide => first | k_is | rfl | k_exc); (case k_InvalidSide => first | k_is | rfl | k_exc); (case b_InvalidSide => first | k_is | rfl | k_exc); (case t_InvalidSide => first | k_is | rfl | k_exc); (case g_InvalidValue => first | k_is | rfl | k_exc); (case x_InvalidValue => first | k_is | rfl | k_exc); (case k_InvalidValue => first | k_is | rfl | k_exc); (case b_InvalidValue => first | k_is | rfl | k_exc); (case t_InvalidValue => first | k_is | rfl | k_exc); (case g_HandedError => first | k_is | rfl | k_exc); (case b_HandedError => first | k_is | rfl | k_exc); (case t_HandedError => first | k_is | rfl | k_exc); (case g_InvalidSides => first | k_is | rfl | k_exc); (case b_InvalidSides => first | k_is | rfl | k_exc); (case t_InvalidSides => first | k_is | rfl | k_exc); (case hd_HandedError => first | k_is | rfl | k_exc); (case hs_HandedError => first | k_is | rfl | k_exc); (case hd_InvalidSide => first | k_is | rfl | k_exc); (case hs_InvalidSide => first | k_is | rfl | k_exc); (case hd_InvalidSides => first | k_is | rfl | k_exc); (case hs_InvalidSides => first | k_is | rfl | k_exc); (case hd_InvalidValue => first | k_is | rfl | k_exc); (case hs_InvalidValue => first | k_is | rfl | k_exc); (case xn => first | k_is | rfl | k_exc); (case xt => first | k_is | rfl | k_exc); (case xg_InvalidSide => first | k_is | rfl | k_exc); (case xk_InvalidSide => first | k_is | rfl | k_exc); (case xa_InvalidSide => first | k_is | rfl | k_exc); (case xm_InvalidSide => first | k_is | rfl | k_exc); (case xg_InvalidValue => first | k_is | rfl | k_exc); (case xk_InvalidValue => first | k_is | rfl | k_exc); (case xa_InvalidValue => first | k_is | rfl | k_exc); (case xm_InvalidValue => first | k_is | rfl | k_exc); (case p_InvalidSide_HandedError => first | k_is | rfl | k_exc); (case p_InvalidSide_InvalidSide => first | k_is | rfl | k_exc); (case p_InvalidSide_InvalidSides => first | k_is | rfl | k_exc); (case p_InvalidSide_InvalidValue => first | k_is | rfl | k_exc); (case p_InvalidSide_ValueError => first | k_is | rfl | k_exc); (case p_InvalidValue_HandedError => first | k_is | rfl | k_exc); (case p_InvalidValue_InvalidSide => first | k_is | rfl | k_exc); (case p_InvalidValue_InvalidSides => first | k_is | rfl | k_exc); (case p_InvalidValue_InvalidValue => first | k_is | rfl | k_exc); (case p_InvalidValue_ValueError => first | k_is | rfl | k_exc); (case v_GREATEST_OFFSET => first | k_is | rfl | k_exc); (case v_GREATEST_STEP => first | k_is | rfl | k_exc); (case v_MODES => first | k_is | rfl | k_exc); (case w_MODES => first | k_is | rfl | k_exc); (case d_MODES => first | k_is | rfl | k_exc); (case q_MODES => first | k_is | rfl | k_exc); (case r_MODES => first | k_is | rfl | k_exc); (case v_TRIED => first | k_is | rfl | k_exc); (case z_ValueError => first | k_is | rfl | k_exc); (case z_abs => first | k_is | rfl | k_exc); (case z_bool => first | k_is | rfl | k_exc); (case z_int => first | k_is | rfl | k_exc); (case z_isinstance => first | k_is | rfl | k_exc); (case z_len => first | k_is | rfl | k_exc); (case z_max => first | k_is | rfl | k_exc); (case z_min => first | k_is | rfl | k_exc); (case z_range => first | k_is | rfl | k_exc); (case z_str => first | k_is | rfl | k_exc); (case z_tuple => first | k_is | rfl | k_exc)
