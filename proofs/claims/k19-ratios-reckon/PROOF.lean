import PyProof.Rows.All
import HandS.ForMost
import HandS.SortKw
import HandS.Wide
import HandS.TupAny
import HandS.Gcd
import HandS.Exc
import HandS.Deep
import HandS.IsInst
import HandS.WideBits
import HandS.Zip
import HandS.DictComp
import PyProof.Rows.ReprR
import KE.SortKeyHeap
import HandS.More
import HandS.TryOnly
import HandS.FStr
import HandS.ExcBuiltin
import HandS.ExcIs
import HandS.Words
import HandS.Ends
import HandS.Defaults
import PyProof.ReprLen
import PySem.Challenge.RW_holdorslip_k19_ratios_reckon
set_option Elab.async false
set_option linter.all false
set_option maxRecDepth 100000
namespace G
open PySem PySem.Spec PyProof.Rows L2

/-! # data without addresses -/
inductive T where
  | non | bl (b : Bool) | int (i : Int) | str (s : Str)
  | tup (xs : List T) | lst (xs : List T) | rlst (xs : List T) | dic (kvs : List (Key × T))

mutual
inductive Den (K : PySem.W.Frag) (F : Hp) : V → T → Prop
  | non : Den K F .non .non
  | bl (b : Bool) : Den K F (.bl b) (.bl b)
  | int (i : Int) : Den K F (.int i) (.int i)
  | str (s : Str) : Den K F (.str s) (.str s)
  | tup {a : Addr} {vs : List V} {ts : List T} : SqT K F a vs → DenAll K F vs ts → Den K F (.ref a) (.tup ts)
  | lst {a : Addr} {vs : List V} {ts : List T} : F a = some (.lst vs) → DenAll K F vs ts → Den K F (.ref a) (.lst ts)
  | rlst {a : Addr} {vs : List V} {ts : List T} : SqL K F a vs → DenAll K F vs ts → Den K F (.ref a) (.rlst ts)
  | dic {a : Addr} {kvs : List (Key × V)} {kts : List (Key × T)} : Rd F a (.dK kvs) → DenKV K F kvs kts → Den K F (.ref a) (.dic kts)
inductive DenAll (K : PySem.W.Frag) (F : Hp) : List V → List T → Prop
  | nil : DenAll K F [] []
  | cons {v : V} {vs : List V} {t : T} {ts : List T} : Den K F v t → DenAll K F vs ts → DenAll K F (v :: vs) (t :: ts)
inductive DenKV (K : PySem.W.Frag) (F : Hp) : List (Key × V) → List (Key × T) → Prop
  | nil : DenKV K F [] []
  | cons {k : Key} {v : V} {vs : List (Key × V)} {t : T} {ts : List (Key × T)} : Den K F v t → DenKV K F vs ts → DenKV K F ((k, v) :: vs) ((k, t) :: ts)
end

theorem same_t {K : PySem.W.Frag} {H H' : Hp} {a : Addr} {xs : List V} (e : Same H H') (h : SqT K H a xs) : SqT K H' a xs := by
  rcases h with (h | ⟨o, h⟩) | h
  · exact .inl (.inl (e _ _ h))
  · exact .inl (.inr ⟨o, e _ _ h⟩)
  · exact .inr h

theorem rd_mono {H H' : Hp} {a : Addr} {u : HO} (e : Same H H') (h : Rd H a u) : Rd H' a u := by
  rcases h with h | ⟨o, h⟩
  · exact .inl (e _ _ h)
  · exact .inr ⟨o, e _ _ h⟩
section
variable {K : PySem.W.Frag} {F F' : Hp}
mutual
theorem Den.mono (e : Same F F') : ∀ {v : V} {t : T}, Den K F v t → Den K F' v t
  | _, _, .non => .non
  | _, _, .bl b => .bl b
  | _, _, .int i => .int i
  | _, _, .str s => .str s
  | _, _, .tup h d => .tup (same_t e h) (DenAll.mono e d)
  | _, _, .lst h d => .lst (e _ _ h) (DenAll.mono e d)
  | _, _, .rlst h d => .rlst (e.seq h) (DenAll.mono e d)
  | _, _, .dic h d => .dic (rd_mono e h) (DenKV.mono e d)
theorem DenAll.mono (e : Same F F') : ∀ {v : List V} {t : List T}, DenAll K F v t → DenAll K F' v t
  | _, _, .nil => .nil
  | _, _, .cons h d => .cons (Den.mono e h) (DenAll.mono e d)
theorem DenKV.mono (e : Same F F') : ∀ {v : List (Key × V)} {t : List (Key × T)}, DenKV K F v t → DenKV K F' v t
  | _, _, .nil => .nil
  | _, _, .cons h d => .cons (Den.mono e h) (DenKV.mono e d)
end
theorem DenAll.length : ∀ {v : List V} {t : List T}, DenAll K F v t → v.length = t.length
  | _, _, .nil => rfl
  | _, _, .cons _ d => by rw [List.length_cons, List.length_cons, DenAll.length d]
theorem DenAll.get : ∀ {v : List V} {t : List T} {i : Nat} {x : T}, DenAll K F v t → t[i]? = some x → ∃ u, v[i]? = some u ∧ Den K F u x
  | _, _, _, _, .nil, h => by simp at h
  | _, _, 0, _, .cons h d, e => by simp at e; subst e; exact ⟨_, rfl, h⟩
  | _, _, i + 1, _, .cons h d, e => by
    obtain ⟨u, h1, h2⟩ := DenAll.get (i := i) d (by simpa using e)
    exact ⟨u, by simpa using h1, h2⟩
theorem DenAll.getV : ∀ {v : List V} {t : List T} {i : Nat} {u : V}, DenAll K F v t → v[i]? = some u → ∃ x, t[i]? = some x ∧ Den K F u x
  | _, _, _, _, .nil, h => by simp at h
  | _, _, 0, _, .cons h d, e => by simp at e; subst e; exact ⟨_, rfl, h⟩
  | _, _, i + 1, _, .cons h d, e => by
    obtain ⟨u, h1, h2⟩ := DenAll.getV (i := i) d (by simpa using e)
    exact ⟨u, by simpa using h1, h2⟩
theorem DenAll.append : ∀ {v v' : List V} {t t' : List T}, DenAll K F v t → DenAll K F v' t' → DenAll K F (v ++ v') (t ++ t')
  | _, _, _, _, .nil, h => h
  | _, _, _, _, .cons h d, h' => .cons h (DenAll.append d h')
theorem DenAll.one {v : V} {t : T} (h : Den K F v t) : DenAll K F [v] [t] := .cons h .nil
theorem DenAll.take : ∀ {v : List V} {t : List T} (n : Nat), DenAll K F v t → DenAll K F (v.take n) (t.take n)
  | _, _, 0, _ => by simp; exact .nil
  | _, _, _ + 1, .nil => by simp; exact .nil
  | _, _, n + 1, .cons h d => by simp only [List.take_succ_cons]; exact .cons h (DenAll.take n d)
theorem DenAll.drop : ∀ {v : List V} {t : List T} (n : Nat), DenAll K F v t → DenAll K F (v.drop n) (t.drop n)
  | _, _, 0, d => by simpa using d
  | _, _, _ + 1, .nil => by simp; exact .nil
  | _, _, n + 1, .cons h d => by simp only [List.drop_succ_cons]; exact DenAll.drop n d
theorem DenAll.set : ∀ {v : List V} {t : List T} (n : Nat) {x : V} {y : T}, DenAll K F v t → Den K F x y → DenAll K F (v.set n x) (t.set n y)
  | _, _, _, _, _, .nil, _ => .nil
  | _, _, 0, _, _, .cons h d, e => .cons e d
  | _, _, n + 1, _, _, .cons h d, e => .cons h (DenAll.set n d e)
theorem DenAll.dropLast : ∀ {v : List V} {t : List T}, DenAll K F v t → DenAll K F v.dropLast t.dropLast := fun {v t} h => by
  rw [List.dropLast_eq_take, List.dropLast_eq_take, h.length]; exact h.take _
theorem DenAll.eraseIdx : ∀ {v : List V} {t : List T} (n : Nat), DenAll K F v t → DenAll K F (v.eraseIdx n) (t.eraseIdx n)
  | _, _, _, .nil => .nil
  | _, _, 0, .cons h d => d
  | _, _, n + 1, .cons h d => .cons h (DenAll.eraseIdx n d)
theorem DenAll.ints : ∀ {v : List V} {ns : List Int}, DenAll K F v (ns.map T.int) → v = ns.map V.int
  | _, [], h => by cases h; rfl
  | _, n :: ns, h => by
    cases h with
    | cons h d => cases h; rw [DenAll.ints d]; rfl
theorem DenAll.of_ints : ∀ (ns : List Int), DenAll K F (ns.map V.int) (ns.map T.int)
  | [] => .nil
  | n :: ns => .cons (.int n) (DenAll.of_ints ns)
theorem DenAll.strs : ∀ {v : List V} {ns : List Str}, DenAll K F v (ns.map T.str) → v = ns.map V.str
  | _, [], h => by cases h; rfl
  | _, n :: ns, h => by
    cases h with
    | cons h d => cases h; rw [DenAll.strs d]; rfl
theorem DenAll.of_strs : ∀ (ns : List Str), DenAll K F (ns.map V.str) (ns.map T.str)
  | [] => .nil
  | n :: ns => .cons (.str n) (DenAll.of_strs ns)
end

/-! # owned objects, slots, results -/
inductive Ow where
  | lst (xs : List T) | dic (kvs : List (Key × T))
/-- a slot's content: a frozen value, an owned object, an owned object that must stay as it is for now -/
inductive Iv where
  | val (t : T) | own (o : Ow) | lck (o : Ow)
abbrev Env := List (Option Iv)
inductive R where
  | val (t : T) | new (o : Ow) | loan (i : Nat)

def frz : Ow → T
  | .lst xs => .lst xs
  | .dic kvs => .dic kvs

/-- an owned object, its content frozen -/
inductive OwnR (K : PySem.W.Frag) (H F : Hp) : V → Ow → List Addr → Prop
  | lst {a : Addr} {vs : List V} {ts : List T} : H a = some (.lst vs) → DenAll K F vs ts → OwnR K H F (.ref a) (.lst ts) [a]
  | dic {a : Addr} {kvs : List (Key × V)} {kts : List (Key × T)} : H a = some (.dK kvs) → DenKV K F kvs kts → OwnR K H F (.ref a) (.dic kts) [a]
/-- an owned object that is locked: a dict is pinned -/
inductive LckR (K : PySem.W.Frag) (H F : Hp) : V → Ow → List Addr → Prop
  | lst {a : Addr} {vs : List V} {ts : List T} : H a = some (.lst vs) → DenAll K F vs ts → LckR K H F (.ref a) (.lst ts) [a]
  | dic {a : Addr} {ob : Obj} {kvs : List (Key × V)} {kts : List (Key × T)} : H a = some (.frz ob (.dK kvs)) → DenKV K F kvs kts → LckR K H F (.ref a) (.dic kts) [a]
inductive IvR (K : PySem.W.Frag) (H F : Hp) : V → Iv → List Addr → Prop
  | val {v : V} {t : T} : Den K F v t → IvR K H F v (.val t) []
  | own {v : V} {o : Ow} {l : List Addr} : OwnR K H F v o l → IvR K H F v (.own o) l
  | lck {v : V} {o : Ow} {l : List Addr} : LckR K H F v o l → IvR K H F v (.lck o) l

theorem OwnR.keep {K : PySem.W.Frag} {H F H' F' : Hp} {v : V} {o : Ow} {l : List Addr} (h : OwnR K H F v o l) (k : ∀ a ∈ l, H' a = H a) (e : Same F F') : OwnR K H' F' v o l := by
  cases h with
  | lst h d => exact .lst ((k _ (by simp)).trans h) (d.mono e)
  | dic h d => exact .dic ((k _ (by simp)).trans h) (d.mono e)
theorem OwnR.here {K : PySem.W.Frag} {H F : Hp} {v : V} {o : Ow} {l : List Addr} (h : OwnR K H F v o l) : ∀ a ∈ l, H a ≠ none := by
  cases h with
  | lst h d => intro a ha; simp at ha; subst ha; rw [h]; simp
  | dic h d => intro a ha; simp at ha; subst ha; rw [h]; simp
theorem LckR.keep {K : PySem.W.Frag} {H F H' F' : Hp} {v : V} {o : Ow} {l : List Addr} (h : LckR K H F v o l) (k : ∀ a ∈ l, H' a = H a) (e : Same F F') : LckR K H' F' v o l := by
  cases h with
  | lst h d => exact .lst ((k _ (by simp)).trans h) (d.mono e)
  | dic h d => exact .dic ((k _ (by simp)).trans h) (d.mono e)
theorem LckR.here {K : PySem.W.Frag} {H F : Hp} {v : V} {o : Ow} {l : List Addr} (h : LckR K H F v o l) : ∀ a ∈ l, H a ≠ none := by
  cases h with
  | lst h d => intro a ha; simp at ha; subst ha; rw [h]; simp
  | dic h d => intro a ha; simp at ha; subst ha; rw [h]; simp
theorem IvR.keep {K : PySem.W.Frag} {H F H' F' : Hp} {v : V} {o : Iv} {l : List Addr} (h : IvR K H F v o l) (k : ∀ a ∈ l, H' a = H a) (e : Same F F') : IvR K H' F' v o l := by
  cases h with
  | val d => exact .val (d.mono e)
  | own h => exact .own (h.keep k e)
  | lck h => exact .lck (h.keep k e)
theorem IvR.here {K : PySem.W.Frag} {H F : Hp} {v : V} {o : Iv} {l : List Addr} (h : IvR K H F v o l) : ∀ a ∈ l, H a ≠ none := by
  cases h with
  | val d => intro a ha; simp at ha
  | own h => exact h.here
  | lck h => exact h.here

/-- the addresses that may change, and all that are spoken for -/
structure Fp where
  own : Addr → Prop
  all : Addr → Prop
  lk : Nat → Addr → Prop
  sub : ∀ a, own a → all a
def fpOf (env : Env) (fp : Nat → List Addr) : Fp where
  own := fun a => ∃ i o, env[i]? = some (some (.own o)) ∧ a ∈ fp i
  lk := fun i a => ∃ o, env[i]? = some (some (.lck o)) ∧ a ∈ fp i
  all := fun a => ∃ i, a ∈ fp i
  sub := fun _ ⟨i, _, _, h⟩ => ⟨i, h⟩

structure EnvR (K : PySem.W.Frag) (env : Env) (σ : L2.St) (H F : Hp) (fp : Nat → List Addr) : Prop where
  slot : ∀ i iv, env[i]? = some (some iv) → ∃ v, σ[i]? = some (some v) ∧ IvR K H F v iv (fp i)
  out : ∀ i, (∀ iv, env[i]? ≠ some (some iv)) → fp i = []
  dis : ∀ i j a, a ∈ fp i → a ∈ fp j → i = j
  free : ∀ i a, a ∈ fp i → F a = none
  sub : Same F H
  len : env.length = σ.length

/-- from one world to a later one -/
structure Stp (P : Fp) (H F : Hp) (P' : Fp) (H' F' : Hp) : Prop where
  keep : ∀ a o, H a = some o → ¬ P.own a → H' a = some o
  fz : Same F F'
  nfz : ∀ a, F' a ≠ none → F a ≠ none ∨ P.own a ∨ H a = none
  own : ∀ a, P'.own a → P.own a ∨ H a = none
  all : ∀ a, P'.all a → P.all a ∨ H a = none
  lk : ∀ i a, P'.lk i a → P.lk i a

theorem EnvR.here {K : PySem.W.Frag} {env : Env} {σ : L2.St} {H F : Hp} {fp : Nat → List Addr} (E : EnvR K env σ H F fp) : ∀ i a, a ∈ fp i → H a ≠ none := fun i a ha => by
  by_cases h : ∃ iv, env[i]? = some (some iv)
  · obtain ⟨iv, h⟩ := h
    obtain ⟨v, _, r⟩ := E.slot i iv h
    exact r.here a ha
  · have := E.out i fun iv e => h ⟨iv, e⟩
    rw [this] at ha
    simp at ha

section
variable {P P1 P2 : Fp} {H H1 H2 F F1 F2 : Hp}
theorem Stp.refl : Stp P H F P H F := ⟨fun _ _ h _ => h, fun _ _ h => h, fun _ h => .inl h, fun _ h => .inl h, fun _ h => .inl h, fun _ _ h => h⟩
theorem Stp.back (s : Stp P H F P1 H1 F1) {a : Addr} (h : H1 a = none) : P.own a ∨ H a = none := by
  by_cases ho : P.own a
  · exact .inl ho
  · cases e : H a with
    | none => exact .inr rfl
    | some o => rw [s.keep a o e ho] at h; cases h
theorem Stp.trans (s : Stp P H F P1 H1 F1) (t : Stp P1 H1 F1 P2 H2 F2) : Stp P H F P2 H2 F2 where
  keep := fun a o h hn => t.keep a o (s.keep a o h hn) fun ho => (s.own a ho).elim hn fun z => by rw [h] at z; cases z
  fz := s.fz.trans t.fz
  nfz := fun a h => by
    rcases t.nfz a h with h | h | h
    · exact s.nfz a h
    · exact .inr (s.own a h)
    · exact .inr (s.back h)
  own := fun a h => by
    rcases t.own a h with h | h
    · exact s.own a h
    · exact s.back h
  all := fun a h => by
    rcases t.all a h with h | h
    · exact s.all a h
    · exact (s.back h).imp (P.sub a) id
  lk := fun i a h => s.lk i a (t.lk i a h)
/-- what is not spoken for stays -/
theorem Stp.fresh (s : Stp P H F P1 H1 F1) {a : Addr} (h0 : H a ≠ none) (hn : ¬ P.all a) (hF : F a = none) : H1 a = H a ∧ F1 a = none ∧ ¬ P1.all a := by
  have hn' : ¬ P.own a := fun h => hn (P.sub a h)
  refine ⟨?_, ?_, fun h => (s.all a h).elim hn h0⟩
  · cases e : H a with
    | none => exact absurd e h0
    | some o => exact s.keep a o e hn'
  · cases e : F1 a with
    | none => rfl
    | some o =>
      rcases s.nfz a (by rw [e]; simp) with h | h | h
      · exact absurd hF h
      · exact absurd h hn'
      · exact absurd h h0
end

/-- a result; l: what it owns -/
inductive RR (K : PySem.W.Frag) (σ : L2.St) (H F : Hp) : R → V → List Addr → Prop
  | val {v : V} {t : T} : Den K F v t → RR K σ H F (.val t) v []
  | new {v : V} {o : Ow} {l : List Addr} : OwnR K H F v o l → RR K σ H F (.new o) v l
  | loan {v : V} {i : Nat} : σ[i]? = some (some v) → RR K σ H F (.loan i) v []
/-- what a temporary owns stands apart, and is new since H0 -/
def Tmp (H0 : Hp) (P0 : Fp) (F : Hp) (P : Fp) (l : List Addr) : Prop := ∀ a ∈ l, F a = none ∧ ¬ P.all a ∧ (P0.own a ∨ H0 a = none)
inductive RRs (K : PySem.W.Frag) (σ : L2.St) (H F : Hp) : List R → List V → List Addr → Prop
  | nil : RRs K σ H F [] [] []
  | cons {r : R} {v : V} {l : List Addr} {rs : List R} {vs : List V} {ls : List Addr} : RR K σ H F r v l → RRs K σ H F rs vs ls → (∀ a ∈ l, a ∉ ls) → RRs K σ H F (r :: rs) (v :: vs) (l ++ ls)

inductive Xv where
  | blt (n : String)
def XR : Xv → Value → Option Addr → Hp → Prop
  | .blt n, cls, d, _ => cls = .type n ∧ d = none

inductive Out (α : Type) where
  | ok (a : α) (env : Env)
  | exc (x : Xv) (env : Env)
  | stuck
def Out.bind {α β : Type} : Out α → (α → Env → Out β) → Out β
  | .ok a env, f => f a env
  | .exc x env, _ => .exc x env
  | .stuck, _ => .stuck
/-- what an outcome asks: Q at the end, W at an exception -/
def Out.asks {α : Type} (K : PySem.W.Frag) (W : WX) (σ : L2.St) (H F : Hp) (P : Fp) (o : Out α) (Q : α → Env → Hp → Hp → (Nat → List Addr) → Prop) : Prop :=
  match o with
  | .ok a env' => ∀ H' F' fp', EnvR K env' σ H' F' fp' → Stp P H F (fpOf env' fp') H' F' → Q a env' H' F' fp'
  | .exc x env' => ∀ cls d H' F' fp', EnvR K env' σ H' F' fp' → Stp P H F (fpOf env' fp') H' F' → XR x cls d H' → W cls d σ H'
  | .stuck => False

def tE (K : PySem.W.Frag) (W : WX) (m : Env → Out R) : TE := fun σ H Q => ∃ env F fp, EnvR K env σ H F fp ∧
  (m env).asks K W σ H F (fpOf env fp) fun r env' H' F' fp' => ∀ v l, RR K σ H' F' r v l → Tmp H (fpOf env fp) F' (fpOf env' fp') l → Q v H'
def tB (K : PySem.W.Frag) (W : WX) (m : Env → Out Bool) : TT := fun σ H Q => ∃ env F fp, EnvR K env σ H F fp ∧
  (m env).asks K W σ H F (fpOf env fp) fun b env' H' F' fp' => Q b H'
def tA (K : PySem.W.Frag) (W : WX) (m : Env → Out (List R)) : TA := fun σ H Q => ∃ env F fp, EnvR K env σ H F fp ∧
  (m env).asks K W σ H F (fpOf env fp) fun rs env' H' F' fp' => ∀ vs l, RRs K σ H' F' rs vs l → Tmp H (fpOf env fp) F' (fpOf env' fp') l → Q vs H'

section
variable {α β : Type} {K : PySem.W.Frag} {W : WX} {σ : L2.St} {H F H0 F0 : Hp} {P0 P : Fp}
theorem Out.asks_mono {o : Out α} {Q Q' : α → Env → Hp → Hp → (Nat → List Addr) → Prop}
    (s : Stp P0 H0 F0 P H F) (h : o.asks K W σ H0 F0 P0 Q) (k : ∀ a env' H' F' fp', EnvR K env' σ H' F' fp' → Stp P H F (fpOf env' fp') H' F' → Q a env' H' F' fp' → Q' a env' H' F' fp') : o.asks K W σ H F P Q' := by
  cases o with
  | stuck => exact h
  | ok a env' => exact fun H' F' fp' E t => k a env' H' F' fp' E t (h H' F' fp' E (s.trans t))
  | exc x env' => exact fun cls d H' F' fp' E t x => h cls d H' F' fp' E (s.trans t) x
theorem Out.asks_bind {o : Out α} {f : α → Env → Out β} {Q : β → Env → Hp → Hp → (Nat → List Addr) → Prop}
    (h : (o.bind f).asks K W σ H F P Q) : o.asks K W σ H F P fun a env' H' F' fp' => EnvR K env' σ H' F' fp' ∧ Stp P H F (fpOf env' fp') H' F' ∧ (f a env').asks K W σ H' F' (fpOf env' fp') Q := by
  cases o with
  | stuck => exact h
  | exc x env' => exact h
  | ok a env' => exact fun H' F' fp' E s => ⟨E, s, Out.asks_mono (Q := Q) s h fun _ _ _ _ _ _ _ p => p⟩
theorem Out.asks_ok {a : α} {env : Env} {fp : Nat → List Addr} {Q : α → Env → Hp → Hp → (Nat → List Addr) → Prop}
    (h : (Out.ok a env).asks K W σ H F P Q) (E : EnvR K env σ H F fp) (s : Stp P H F (fpOf env fp) H F) : Q a env H F fp := h H F fp E s
end

/-- weaken a reading -/
theorem pe_imp {X : Cx} {e : Expr} {t t' : TE} (h : PE X e t) (k : ∀ σ H Q, t' σ H Q → t σ H Q) : PE X e t' := ⟨fun pins s σ H Q I q => h.run pins s σ H Q I (k σ H Q q)⟩
theorem pt_imp {X : Cx} {e : Expr} {t t' : TT} (h : PT X e t) (k : ∀ σ H Q, t' σ H Q → t σ H Q) : PT X e t' := ⟨fun pins s σ H Q I q => h.run pins s σ H Q I (k σ H Q q)⟩
theorem pw_imp {X : Cx} {e : Expr} {t t' : TT} (h : PW X e t) (k : ∀ σ H Q, t' σ H Q → t σ H Q) : PW X e t' := ⟨fun w pins s σ H Q I q => h.run w pins s σ H Q I (k σ H Q q)⟩
theorem pa_imp {X : Cx} {e : List Expr} {t t' : TA} (h : PA X e t) (k : ∀ σ H Q, t' σ H Q → t σ H Q) : PA X e t' := ⟨fun p pins s σ H Q I q => h.run p pins s σ H Q I (k σ H Q q)⟩
end G
namespace G
open PySem PySem.Spec PyProof.Rows L2

/-! # values -/
def toT : Iv → T
  | .val t => t
  | .own o => frz o
  | .lck o => frz o
def look (env : Env) : R → Option Iv
  | .val t => some (.val t)
  | .new o => some (.own o)
  | .loan i => match env[i]? with | some x => x | none => none
def seqL : T → Option (List T)
  | .lst xs => some xs
  | .rlst xs => some xs
  | _ => none
def seqA : T → Option (List T)
  | .lst xs => some xs
  | .rlst xs => some xs
  | .tup xs => some xs
  | _ => none
/-- a key -/
def keyT : T → Option Key
  | .int i => some (.inl i)
  | .str s => some (.inr s)
  | _ => none
def flatT : T → Option V
  | .non => some .non
  | .bl b => some (.bl b)
  | .int i => some (.int i)
  | .str s => some (.str s)
  | _ => none

section
variable {K : PySem.W.Frag} {H F : Hp} {v : V} {t : T} {iv : Iv} {l : List Addr}
theorem IvR.den (s : Same F H) (h : IvR K H F v iv l) : ∃ F', Same F F' ∧ Same F' H ∧ Den K F' v (toT iv) := by
  cases h with
  | val d => exact ⟨F, fun _ _ h => h, s, d⟩
  | own h =>
    cases h with
    | @lst a vs ts e d =>
      refine ⟨H, s, fun _ _ h => h, .lst e (d.mono s)⟩
    | @dic a kvs kts e d => exact ⟨H, s, fun _ _ h => h, .dic (.inl e) (d.mono s)⟩
  | lck h =>
    cases h with
    | @lst a vs ts e d =>
      refine ⟨H, s, fun _ _ h => h, .lst e (d.mono s)⟩
    | @dic a ob kvs kts e d => exact ⟨H, s, fun _ _ h => h, .dic (.inr ⟨ob, e⟩) (d.mono s)⟩
/-- read at the heap itself -/
theorem IvR.denH (s : Same F H) (h : IvR K H F v iv l) : Den K H v (toT iv) := by
  obtain ⟨F', _, s', d⟩ := h.den s
  exact d.mono s'
theorem Den.lstF {xs : List T} (d : Den K F v (.lst xs)) : ∃ a vs, v = .ref a ∧ F a = some (.lst vs) ∧ DenAll K F vs xs := by
  cases d with
  | lst h d => exact ⟨_, _, rfl, h, d⟩
/-- a value that is read: frozen, or an owned one whose parts are frozen -/
inductive VR (K : PySem.W.Frag) (H F : Hp) : V → T → Prop
  | fz {v : V} {t : T} : Den K F v t → VR K H F v t
  | lst {a : Addr} {vs : List V} {ts : List T} : H a = some (.lst vs) → DenAll K F vs ts → VR K H F (.ref a) (.lst ts)
  | dic {a : Addr} {kvs : List (Key × V)} {kts : List (Key × T)} : Rd H a (.dK kvs) → DenKV K F kvs kts → VR K H F (.ref a) (.dic kts)
theorem IvR.vr (h : IvR K H F v iv l) : VR K H F v (toT iv) := by
  cases h with
  | val d => exact .fz d
  | own h =>
    cases h with
    | lst e d => exact .lst e d
    | dic e d => exact .dic (.inl e) d
  | lck h =>
    cases h with
    | lst e d => exact .lst e d
    | dic e d => exact .dic (.inr ⟨_, e⟩) d
theorem VR.den (s : Same F H) (h : VR K H F v t) : Den K H v t := by
  cases h with
  | fz d => exact d.mono s
  | lst e d => exact .lst e (d.mono s)
  | dic e d => exact .dic e (d.mono s)
theorem Den.seqL (d : Den K H v t) {xs : List T} (e : seqL t = some xs) : ∃ a vs, v = .ref a ∧ SqL K H a vs ∧ DenAll K H vs xs := by
  cases d with
  | lst h d => simp [G.seqL] at e; subst e; exact ⟨_, _, rfl, .inl (.inl h), d⟩
  | rlst h d => simp [G.seqL] at e; subst e; exact ⟨_, _, rfl, h, d⟩
  | _ => simp [G.seqL] at e
theorem Den.seqA (d : Den K H v t) {xs : List T} (e : seqA t = some xs) : ∃ a vs, v = .ref a ∧ (SqL K H a vs ∨ SqT K H a vs) ∧ DenAll K H vs xs := by
  cases d with
  | lst h d => simp [G.seqA] at e; subst e; exact ⟨_, _, rfl, .inl (.inl (.inl h)), d⟩
  | rlst h d => simp [G.seqA] at e; subst e; exact ⟨_, _, rfl, .inl h, d⟩
  | tup h d => simp [G.seqA] at e; subst e; exact ⟨_, _, rfl, .inr h, d⟩
  | _ => simp [G.seqA] at e
theorem Den.is_int {i : Int} (d : Den K H v (.int i)) : v = .int i := by cases d; rfl
theorem Den.is_str {i : Str} (d : Den K H v (.str i)) : v = .str i := by cases d; rfl
theorem Den.is_bl {i : Bool} (d : Den K H v (.bl i)) : v = .bl i := by cases d; rfl
theorem Den.is_non (d : Den K H v .non) : v = .non := by cases d; rfl
theorem Den.lst' {xs : List T} (d : Den K H v (.lst xs)) : ∃ a vs, v = .ref a ∧ H a = some (.lst vs) ∧ DenAll K H vs xs := by
  cases d with
  | lst h d => exact ⟨_, _, rfl, h, d⟩
theorem Den.tup' {xs : List T} (d : Den K H v (.tup xs)) : ∃ a vs, v = .ref a ∧ SqT K H a vs ∧ DenAll K H vs xs := by
  cases d with
  | tup h d => exact ⟨_, _, rfl, h, d⟩
theorem Den.dic' {xs : List (Key × T)} (d : Den K H v (.dic xs)) : ∃ a vs, v = .ref a ∧ Rd H a (.dK vs) ∧ DenKV K H vs xs := by
  cases d with
  | dic h d => exact ⟨_, _, rfl, h, d⟩
theorem Den.flat {u : V} (d : Den K H v t) (e : flatT t = some u) : v = u := by
  cases d <;> simp [flatT] at e <;> exact e
theorem flatT_flat {u : V} (e : flatT t = some u) : flatV u = true := by
  cases t <;> simp [flatT] at e <;> subst e <;> rfl
theorem Den.key {k : Key} (d : Den K H v t) (e : keyT t = some k) : v = kV k := by
  cases d <;> simp [keyT] at e <;> subst e <;> rfl
theorem RR.look {env : Env} {σ : L2.St} {fp : Nat → List Addr} {r : R} (h : RR K σ H F r v l) (E : EnvR K env σ H F fp) (e : look env r = some iv) : ∃ l', IvR K H F v iv l' := by
  cases h with
  | val d => simp [G.look] at e; subst e; exact ⟨_, .val d⟩
  | new h => simp [G.look] at e; subst e; exact ⟨_, .own h⟩
  | @loan _ i h1 =>
    simp only [G.look] at e
    cases h2 : env[i]? with
    | none => rw [h2] at e; simp at e
    | some x =>
      rw [h2] at e
      simp only at e
      subst e
      obtain ⟨v', e1, r⟩ := E.slot i iv h2
      rw [h1] at e1
      cases e1
      exact ⟨_, r⟩
theorem DenKV.keys {kvs : List (Key × V)} {kts : List (Key × T)} (d : DenKV K H kvs kts) : kvs.map (·.1) = kts.map (·.1) := by
  induction kvs generalizing kts with
  | nil => cases d; rfl
  | cons p r ih => cases d with | cons h d => simp [ih d]
theorem DenKV.length {kvs : List (Key × V)} {kts : List (Key × T)} (d : DenKV K H kvs kts) : kvs.length = kts.length := by
  have := congrArg List.length d.keys
  simpa using this
def valT (kts : List (Key × T)) (k : Key) : Option T := (kts.find? fun kv => decide (kv.1 = k)).map (·.2)
def putT (kts : List (Key × T)) (k : Key) (t : T) : List (Key × T) := if (kts.any fun kv => decide (kv.1 = k)) = true then kts.map fun kv => if kv.1 = k then (kv.1, t) else kv else kts ++ [(k, t)]
theorem DenKV.val {kvs : List (Key × V)} {kts : List (Key × T)} (d : DenKV K H kvs kts) (k : Key) : (∃ u t, valV kvs k = some u ∧ valT kts k = some t ∧ Den K H u t) ∨ (valV kvs k = none ∧ valT kts k = none) := by
  induction kvs generalizing kts with
  | nil => cases d; exact .inr ⟨rfl, rfl⟩
  | cons p r ih =>
    cases d with
    | @cons k' v' _ t' ts h d =>
      by_cases e : k' = k
      · subst e
        exact .inl ⟨v', t', by simp [valV], by simp [valT], h⟩
      · have := ih d
        simp only [valV, valT, List.find?_cons, decide_eq_false e] at this ⊢
        exact this
theorem DenKV.any {kvs : List (Key × V)} {kts : List (Key × T)} (d : DenKV K H kvs kts) (k : Key) : (kvs.any fun kv => decide (kv.1 = k)) = (kts.any fun kv => decide (kv.1 = k)) := by
  induction kvs generalizing kts with
  | nil => cases d; rfl
  | cons p r ih => cases d with | cons h d => simp [ih d]
theorem DenKV.put {kvs : List (Key × V)} {kts : List (Key × T)} {u : V} {t : T} (d : DenKV K H kvs kts) (k : Key) (h : Den K H u t) : DenKV K H (putK kvs k u) (putT kts k t) := by
  have hm : ∀ {kvs : List (Key × V)} {kts : List (Key × T)}, DenKV K H kvs kts → DenKV K H (kvs.map fun kv => if kv.1 = k then (kv.1, u) else kv) (kts.map fun kv => if kv.1 = k then (kv.1, t) else kv) := by
    intro kvs
    induction kvs with
    | nil => intro kts d; cases d; exact .nil
    | cons p r ih =>
      intro kts d
      cases d with
      | @cons k' v' _ t' ts h' d =>
        simp only [List.map_cons]
        by_cases e : k' = k
        · rw [if_pos e, if_pos e]; exact .cons h (ih d)
        · rw [if_neg e, if_neg e]; exact .cons h' (ih d)
  have ha : ∀ {kvs : List (Key × V)} {kts : List (Key × T)}, DenKV K H kvs kts → DenKV K H (kvs ++ [(k, u)]) (kts ++ [(k, t)]) := by
    intro kvs
    induction kvs with
    | nil => intro kts d; cases d; exact .cons h .nil
    | cons p r ih =>
      intro kts d
      cases d with
      | cons h' d => exact .cons h' (ih d)
  unfold putK putT
  rw [d.any k]
  split
  · exact hm d
  · exact ha d
end

/-! # == -/
def fitT : Nat → T → Bool
  | _, .non => true
  | _, .bl _ => true
  | _, .int _ => true
  | _, .str x => PyData.strOk x
  | k + 1, .lst xs => xs.all (fitT k)
  | k + 1, .tup xs => xs.all (fitT k)
  | _, _ => false
def eqTs (f : T → T → Bool) : List T → List T → Bool
  | [], [] => true
  | x :: xs, y :: ys => f x y && eqTs f xs ys
  | _, _ => false
def eqT : Nat → T → T → Bool
  | _, .non, .non => true
  | _, .bl a, .bl b => a == b
  | _, .bl a, .int j => (if a then 1 else 0) == j
  | _, .int i, .bl b => i == (if b then 1 else 0)
  | _, .int i, .int j => i == j
  | _, .str x, .str y => x == y
  | k + 1, .lst xs, .lst ys => eqTs (eqT k) xs ys
  | k + 1, .tup xs, .tup ys => eqTs (eqT k) xs ys
  | _, _, _ => false
def toD : Nat → T → PyData
  | _, .non => .none
  | _, .bl b => .bool b
  | _, .int i => .int i
  | _, .str x => .str x
  | k + 1, .lst xs => .list (xs.map (toD k))
  | k + 1, .tup xs => .tuple (xs.map (toD k))
  | _, _ => .none
section
variable {K : PySem.W.Frag} {H F : Hp}
theorem fit_lay : ∀ (k : Nat) (t : T), fitT k t = true → (toD k t).canLay0 = true ∧ (toD k t).depth ≤ k := by
  intro k
  induction k with
  | zero => intro t h; cases t <;> simp [fitT, toD, PyData.canLay0, PyData.depth] at h ⊢ <;> exact h
  | succ k ih =>
    have hs : ∀ xs : List T, xs.all (fitT k) = true → PyData.canLayAll0 (xs.map (toD k)) = true ∧ PyData.depthAll (xs.map (toD k)) ≤ k := by
      intro xs
      induction xs with
      | nil => intro _; simp [PyData.canLayAll0, PyData.depthAll]
      | cons x r ih2 =>
        intro h
        simp only [List.all_cons, Bool.and_eq_true] at h
        obtain ⟨a, b⟩ := ih x h.1
        obtain ⟨c, d⟩ := ih2 h.2
        simp only [List.map_cons, PyData.canLayAll0, PyData.depthAll, a, c, Bool.and_self, true_and]
        omega
    intro t h
    cases t with
    | lst xs => simp only [fitT] at h; obtain ⟨a, b⟩ := hs xs h; simp only [toD, PyData.canLay0, PyData.depth]; exact ⟨a, by omega⟩
    | tup xs => simp only [fitT] at h; obtain ⟨a, b⟩ := hs xs h; simp only [toD, PyData.canLay0, PyData.depth]; exact ⟨a, by omega⟩
    | rlst xs => simp [fitT] at h
    | dic xs => simp [fitT] at h
    | str x => simp [fitT, toD, PyData.canLay0, PyData.depth] at h ⊢; exact h
    | _ => simp [toD, PyData.canLay0, PyData.depth]
theorem fit_dp : ∀ (k : Nat) {v : V} {t : T}, fitT k t = true → Den K H v t → Dp K H v (toD k t) := by
  intro k
  induction k with
  | zero => intro v t h d; cases d <;> simp [fitT] at h <;> simp only [toD] <;> constructor
  | succ k ih =>
    have hs : ∀ {vs : List V} {ts : List T}, ts.all (fitT k) = true → DenAll K H vs ts → DpAll K H vs (ts.map (toD k)) := by
      intro vs
      induction vs with
      | nil => intro ts _ d; cases d; exact .nil
      | cons x r ih2 =>
        intro ts h d
        cases d with
        | cons h1 d =>
          simp only [List.all_cons, Bool.and_eq_true] at h
          exact .cons (ih h.1 h1) (ih2 h.2 d)
    intro v t h d
    cases d with
    | lst e d => simp only [fitT] at h; exact .lst (.inl (.inl e)) (hs h d)
    | tup e d => simp only [fitT] at h; exact .tup e (hs h d)
    | rlst e d => simp [fitT] at h
    | dic e d => simp [fitT] at h
    | non => exact .non
    | bl b => exact .bl b
    | int i => exact .int i
    | str s => exact .str s
theorem eqTs_eqv (k : Nat) (ih : ∀ x y : T, fitT k x = true → fitT k y = true → eqT k x y = PyData.eqv (toD k x) (toD k y)) : ∀ xs ys : List T, xs.all (fitT k) = true → ys.all (fitT k) = true →
    eqTs (eqT k) xs ys = PyData.eqvAll (xs.map (toD k)) (ys.map (toD k))
  | [], [], _, _ => by simp [eqTs, PyData.eqvAll]
  | [], y :: ys, _, _ => by simp [eqTs, PyData.eqvAll]
  | x :: xs, [], _, _ => by simp [eqTs, PyData.eqvAll]
  | x :: xs, y :: ys, h, h' => by
    simp only [List.all_cons, Bool.and_eq_true] at h h'
    simp only [eqTs, List.map_cons, PyData.eqvAll, ih x y h.1 h'.1, eqTs_eqv k ih xs ys h.2 h'.2]
theorem eqT_eqv : ∀ (k : Nat) (x y : T), fitT k x = true → fitT k y = true → eqT k x y = PyData.eqv (toD k x) (toD k y) := by
  intro k
  induction k with
  | zero => intro x y hx hy; cases x <;> cases y <;> simp [fitT] at hx hy <;> simp [eqT, toD, PyData.eqv]
  | succ k ih =>
    intro x y hx hy
    cases x <;> cases y <;> (try simp [fitT] at hx) <;> (try simp [fitT] at hy) <;> simp only [eqT, toD, PyData.eqv]
    · exact eqTs_eqv k ih _ _ (by simpa using hx) (by simpa using hy)
    · exact eqTs_eqv k ih _ _ (by simpa using hx) (by simpa using hy)
end
def eqR (x y : T) : Option Bool :=
  match flatT x, flatT y with
  | some u, some w => if scal u w = true then some (decide (u = w)) else if (fitT 40 x && fitT 40 y) = true then some (eqT 40 x y) else none
  | _, _ => if (fitT 40 x && fitT 40 y) = true then some (eqT 40 x y) else none
def ordR (op : CmpOp) (x y : T) : Option Bool :=
  match op, x, y with
  | .Lt, .int i, .int j => some (decide (i < j))
  | .LtE, .int i, .int j => some (decide (i ≤ j))
  | .Gt, .int i, .int j => some (decide (j < i))
  | .GtE, .int i, .int j => some (decide (j ≤ i))
  | .Lt, .str i, .str j => some (decide (i.cps.toList < j.cps.toList))
  | .LtE, .str i, .str j => some (!decide (j.cps.toList < i.cps.toList))
  | .Gt, .str i, .str j => some (decide (j.cps.toList < i.cps.toList))
  | .GtE, .str i, .str j => some (!decide (i.cps.toList < j.cps.toList))
  | _, _, _ => none
def flats : List T → Option (List V)
  | [] => some []
  | x :: xs => match flatT x, flats xs with | some u, some us => some (u :: us) | _, _ => none
/-- one sign -/
def oneSign (s : Str) : Option Nat := if s.cps.size = 1 then s.cps[0]? else none
def inR (x y : T) : Option Bool :=
  match y with
  | .str b => match x with
    | .str a => match oneSign a with
      | some c => some (decide (c ∈ b.cps.toList))
      | none => some (!(Builtin.Str.occurrences b a 0 b.length 1).isEmpty)
    | _ => none
  | .lst ys => if (fitT 40 x && ys.all (fitT 39)) = true then some (ys.any fun z => eqT 40 z x) else none
  | .tup ys => match flatT x, flats ys with
    | some u, some us => some (inV u us)
    | _, _ => none
  | .dic kvs => match keyT x with
    | some k => some (valT kvs k).isSome
    | none => none
  | _ => none
def cmpR (op : CmpOp) (x y : T) : Option Bool :=
  match op with
  | .Eq => eqR x y
  | .NotEq => (eqR x y).map not
  | .In => inR x y
  | .NotIn => (inR x y).map not
  | .Is => match y with
    | .non => some (match x with | .non => true | _ => false)
    | _ => none
  | .IsNot => match y with
    | .non => some (match x with | .non => false | _ => true)
    | _ => none
  | op => ordR op x y

/-- a comparison, by denotations -/
def rCmp (K : PySem.W.Frag) (op : CmpOp) : R2 := fun x y H Q => ∃ tx ty b, Den K H x tx ∧ Den K H y ty ∧ cmpR op tx ty = some b ∧ Q (.bl b) H

theorem flats_den {K : PySem.W.Frag} {H : Hp} : ∀ {vs : List V} {ts : List T} {us : List V}, DenAll K H vs ts → flats ts = some us → vs = us ∧ us.all flatV = true
  | _, _, _, .nil, h => by simp [flats] at h; subst h; exact ⟨rfl, rfl⟩
  | _, _, _, .cons (t := t) (ts := ts) d ds, h => by
    simp only [flats] at h
    cases e : flatT t with
    | none => rw [e] at h; simp at h
    | some u =>
      cases e2 : flats ts with
      | none => rw [e, e2] at h; simp at h
      | some us =>
        rw [e, e2] at h
        simp at h
        subst h
        obtain ⟨h1, h2⟩ := flats_den ds e2
        refine ⟨by rw [d.flat e, h1], ?_⟩
        rw [List.all_cons, flatT_flat e, h2]; rfl
theorem oneSign_is {s : Str} {c : Nat} (h : oneSign s = some c) : s = ⟨#[c]⟩ := by
  unfold oneSign at h
  split at h
  · rename_i hs
    cases s with
    | mk cps =>
      simp only at hs h ⊢
      rcases cps with ⟨l⟩
      match l, hs, h with
      | [x], _, h => simp at h; subst h; rfl
  · simp at h

section
variable {X : Cx}
theorem op_eqR (hu : X.A.units + 64 < cLine) : OpR X (compareOp .Eq) (rCmp X.K .Eq) := by
  intro pins s σ H x y v u Q I rx ry h
  obtain ⟨tx, ty, b, dx, dy, e, q⟩ := h
  have e : eqR tx ty = some b := e
  have deep : (if (fitT 40 tx && fitT 40 ty) = true then some (eqT 40 tx ty) else none) = some b → wpAny (model X.prog X.w) X.A (compareOp .Eq v u) (EP X pins σ Q) X.xe s := by
    intro e
    split at e
    · rename_i hf
      simp only [Bool.and_eq_true] at hf
      cases e
      obtain ⟨l1, l2⟩ := fit_lay 40 tx hf.1
      obtain ⟨m1, m2⟩ := fit_lay 40 ty hf.2
      refine op_eqD hu pins s σ H x y v u Q I rx ry ⟨_, _, fit_dp 40 hf.1 dx, fit_dp 40 hf.2 dy, ?_, ?_, ?_⟩
      · simp only [SeqAt.shaped, l1, Bool.true_and]; exact decide_eq_true (by omega)
      · simp only [SeqAt.shaped, m1, Bool.true_and]; exact decide_eq_true (by omega)
      · rw [← eqT_eqv 40 tx ty hf.1 hf.2]; exact q
    · simp at e
  unfold eqR at e
  cases e1 : flatT tx with
  | none => rw [e1] at e; exact deep e
  | some a =>
    cases e2 : flatT ty with
    | none => rw [e1, e2] at e; exact deep e
    | some c =>
      rw [e1, e2] at e
      simp only at e
      split at e
      · rename_i hs
        cases e
        have ex := dx.flat e1
        have ey := dy.flat e2
        subst ex ey
        exact op_eq pins s σ H _ _ v u Q I rx ry ⟨hs, q⟩
      · exact deep e
theorem op_neR (hu : X.A.units + 64 < cLine) : OpR X (compareOp .NotEq) (rCmp X.K .NotEq) := by
  intro pins s σ H x y v u Q I rx ry h
  obtain ⟨tx, ty, b, dx, dy, e, q⟩ := h
  have e : (eqR tx ty).map not = some b := e
  obtain ⟨b', e0, rfl⟩ := Option.map_eq_some_iff.mp e
  clear e
  have e := e0
  clear e0
  have deep : (if (fitT 40 tx && fitT 40 ty) = true then some (eqT 40 tx ty) else none) = some b' → wpAny (model X.prog X.w) X.A (compareOp .NotEq v u) (EP X pins σ Q) X.xe s := by
    intro e
    split at e
    · rename_i hf
      simp only [Bool.and_eq_true] at hf
      cases e
      obtain ⟨l1, l2⟩ := fit_lay 40 tx hf.1
      obtain ⟨m1, m2⟩ := fit_lay 40 ty hf.2
      refine op_neD hu pins s σ H x y v u Q I rx ry ⟨_, _, fit_dp 40 hf.1 dx, fit_dp 40 hf.2 dy, ?_, ?_, ?_⟩
      · simp only [SeqAt.shaped, l1, Bool.true_and]; exact decide_eq_true (by omega)
      · simp only [SeqAt.shaped, m1, Bool.true_and]; exact decide_eq_true (by omega)
      · rw [← eqT_eqv 40 tx ty hf.1 hf.2]; exact q
    · simp at e
  unfold eqR at e
  cases e1 : flatT tx with
  | none => rw [e1] at e; exact deep e
  | some a =>
    cases e2 : flatT ty with
    | none => rw [e1, e2] at e; exact deep e
    | some c =>
      rw [e1, e2] at e
      simp only at e
      split at e
      · rename_i hs
        cases e
        have ex := dx.flat e1
        have ey := dy.flat e2
        subst ex ey
        exact op_ne pins s σ H _ _ v u Q I rx ry ⟨hs, q⟩
      · exact deep e
theorem op_ordR {op : CmpOp} (ho : op = .Lt ∨ op = .LtE ∨ op = .Gt ∨ op = .GtE) : OpR X (compareOp op) (rCmp X.K op) := by
  intro pins s σ H x y v u Q I rx ry h
  obtain ⟨tx, ty, b, dx, dy, e, q⟩ := h
  rcases ho with rfl | rfl | rfl | rfl
  · have e : ordR .Lt tx ty = some b := e
    cases tx <;> cases ty <;> simp only [ordR, Option.some.injEq, reduceCtorEq] at e
    · exact op_lt pins s σ H _ _ v u Q I rx ry ⟨_, _, dx.is_int, dy.is_int, by rw [← e] at q; exact q⟩
    · exact op_lt_str pins s σ H _ _ v u Q I rx ry ⟨_, _, dx.is_str, dy.is_str, by rw [← e] at q; exact q⟩
  · have e : ordR .LtE tx ty = some b := e
    cases tx <;> cases ty <;> simp only [ordR, Option.some.injEq, reduceCtorEq] at e
    · exact op_le pins s σ H _ _ v u Q I rx ry ⟨_, _, dx.is_int, dy.is_int, by rw [← e] at q; exact q⟩
    · exact op_le_str pins s σ H _ _ v u Q I rx ry ⟨_, _, dx.is_str, dy.is_str, by rw [← e] at q; exact q⟩
  · have e : ordR .Gt tx ty = some b := e
    cases tx <;> cases ty <;> simp only [ordR, Option.some.injEq, reduceCtorEq] at e
    · exact op_gt pins s σ H _ _ v u Q I rx ry ⟨_, _, dx.is_int, dy.is_int, by rw [← e] at q; exact q⟩
    · exact op_gt_str pins s σ H _ _ v u Q I rx ry ⟨_, _, dx.is_str, dy.is_str, by rw [← e] at q; exact q⟩
  · have e : ordR .GtE tx ty = some b := e
    cases tx <;> cases ty <;> simp only [ordR, Option.some.injEq, reduceCtorEq] at e
    · exact op_ge pins s σ H _ _ v u Q I rx ry ⟨_, _, dx.is_int, dy.is_int, by rw [← e] at q; exact q⟩
    · exact op_ge_str pins s σ H _ _ v u Q I rx ry ⟨_, _, dx.is_str, dy.is_str, by rw [← e] at q; exact q⟩
end
end G
namespace G
open PySem PySem.Spec PyProof.Rows L2
section
variable {X : Cx}
theorem fit_list {k : Nat} {ys : List T} (h : ys.all (fitT k) = true) : fitT (k + 1) (.lst ys) = true := h
theorem any_eqv (k : Nat) {x : T} (hx : fitT (k + 1) x = true) : ∀ {ys : List T}, ys.all (fitT (k + 1)) = true → (ys.any fun z => eqT (k + 1) z x) = ((ys.map (toD (k + 1))).any fun z => PyData.eqv z (toD (k + 1) x))
  | [], _ => rfl
  | y :: ys, h => by
    simp only [List.all_cons, Bool.and_eq_true] at h
    simp only [List.any_cons, List.map_cons, any_eqv k hx h.2, eqT_eqv (k + 1) y x h.1 hx]
theorem fit_up : ∀ (k : Nat) (t : T), fitT k t = true → fitT (k + 1) t = true := by
  intro k
  induction k with
  | zero => intro t h; cases t <;> simp [fitT] at h ⊢ <;> exact h
  | succ k ih =>
    intro t h
    have hs : ∀ xs : List T, xs.all (fitT k) = true → xs.all (fitT (k + 1)) = true := fun xs h => by
      rw [List.all_eq_true] at h ⊢
      exact fun x hx => ih x (h x hx)
    cases t with
    | lst xs => exact hs xs h
    | tup xs => exact hs xs h
    | rlst xs => simp [fitT] at h
    | dic xs => simp [fitT] at h
    | str x => exact h
    | _ => simp [fitT]
theorem toD_up : ∀ (k : Nat) (t : T), fitT k t = true → toD (k + 1) t = toD k t := by
  intro k
  induction k with
  | zero => intro t h; cases t <;> simp [fitT] at h <;> simp [toD]
  | succ k ih =>
    intro t h
    have hs : ∀ xs : List T, xs.all (fitT k) = true → xs.map (toD (k + 1)) = xs.map (toD k) := fun xs h => by
      rw [List.all_eq_true] at h
      exact List.map_congr_left fun x hx => ih x (h x hx)
    cases t with
    | lst xs => simp only [toD]; rw [hs xs h]
    | tup xs => simp only [toD]; rw [hs xs h]
    | rlst xs => simp [fitT] at h
    | dic xs => simp [fitT] at h
    | _ => simp [toD]
theorem valK_isSome {K : PySem.W.Frag} {H : Hp} {kvs : List (Key × V)} {kts : List (Key × T)} (d : DenKV K H kvs kts) (k : Key) : (valV kvs k).isSome = (valT kts k).isSome := by
  rcases d.val k with ⟨u, t, e1, e2, _⟩ | ⟨e1, e2⟩ <;> rw [e1, e2] <;> rfl
/-- in, by one rule for both signs -/
theorem in_core {op : CmpOp} {sg : Bool → Bool} {x y : V} {v u : Value} {Q : VK} {pins : List (Addr × Obj)} {s : Shared} {σ : L2.St} {H : Hp} {tx ty : T} {b : Bool}
    (hu : X.A.units + 65 < cLine)
    (h1 : OpR X (compareOp op) (fun x y H Q => ∃ (c : Nat) (z : Str), x = .str ⟨#[c]⟩ ∧ y = .str z ∧ Q (.bl (sg (decide (c ∈ z.cps.toList)))) H))
    (h2 : OpR X (compareOp op) (fun x y H Q => ∃ i j, x = .str i ∧ y = .str j ∧ Q (.bl (sg (!(Builtin.Str.occurrences j i 0 j.length 1).isEmpty))) H))
    (h3 : OpR X (compareOp op) (fun x y H Q => ∃ d ds, Dp X.K H x d ∧ Dp X.K H y (.list ds) ∧ SeqAt.shaped d = true ∧ SeqAt.shaped (.list ds) = true ∧ Q (.bl (sg (ds.any fun z => PyData.eqv z d))) H))
    (h4 : OpR X (compareOp op) (fun x y H Q => ∃ p xs, y = .ref p ∧ (SqL X.K H p xs ∨ SqT X.K H p xs) ∧ flatV x = true ∧ xs.all flatV = true ∧ Q (.bl (sg (inV x xs))) H))
    (h5 : OpR X (compareOp op) (fun y x H Q => ∃ a o, x = .ref a ∧ DGet H a y o ∧ Q (.bl (sg o.isSome)) H))
    (I : Inv X pins σ H s) (rx : RelV x v) (ry : RelV y u) (dx : Den X.K H x tx) (dy : Den X.K H y ty) (e : inR tx ty = some b) (q : Q (.bl (sg b)) H) :
    wpAny (model X.prog X.w) X.A (compareOp op v u) (EP X pins σ Q) X.xe s := by
  cases ty with
  | str z =>
    cases tx with
    | str a =>
      simp only [inR] at e
      cases eo : oneSign a with
      | some c =>
        rw [eo] at e
        cases e
        exact h1 pins s σ H x y v u Q I rx ry ⟨c, z, by rw [dx.is_str, oneSign_is eo], dy.is_str, q⟩
      | none =>
        rw [eo] at e
        cases e
        exact h2 pins s σ H x y v u Q I rx ry ⟨a, z, dx.is_str, dy.is_str, q⟩
    | _ => simp [inR] at e
  | lst ys =>
    simp only [inR] at e
    split at e
    · rename_i hf
      simp only [Bool.and_eq_true] at hf
      cases e
      have hys : ys.all (fitT 40) = true := by
        have h := hf.2
        rw [List.all_eq_true] at h ⊢
        exact fun z hz => fit_up 39 z (h z hz)
      have ed : toD 40 (.lst ys) = .list (ys.map (toD 40)) := by
        rw [← toD_up 40 (.lst ys) hf.2]
        rfl
      have dl := fit_dp 40 (t := .lst ys) hf.2 dy
      rw [ed] at dl
      obtain ⟨l1, l2⟩ := fit_lay 40 tx hf.1
      obtain ⟨m1, m2⟩ := fit_lay 40 (.lst ys) hf.2
      rw [ed] at m1 m2
      refine h3 pins s σ H x y v u Q I rx ry ⟨_, _, fit_dp 40 hf.1 dx, dl, ?_, ?_, ?_⟩
      · simp only [SeqAt.shaped, l1, Bool.true_and]; exact decide_eq_true (by omega)
      · simp only [SeqAt.shaped, m1, Bool.true_and]; exact decide_eq_true (by omega)
      · rw [← any_eqv 39 hf.1 hys]; exact q
    · simp at e
  | tup ys =>
    simp only [inR] at e
    cases e1 : flatT tx with
    | none => rw [e1] at e; simp at e
    | some a =>
      cases e2 : flats ys with
      | none => rw [e1, e2] at e; simp at e
      | some us =>
        rw [e1, e2] at e
        cases e
        obtain ⟨p, vs, rfl, hq, ds⟩ := dy.tup'
        obtain ⟨f1, f2⟩ := flats_den ds e2
        subst f1
        have ex := dx.flat e1
        subst ex
        exact h4 pins s σ H _ _ v u Q I rx ry ⟨p, _, rfl, .inr hq, flatT_flat e1, f2, q⟩
  | dic kts =>
    simp only [inR] at e
    cases e1 : keyT tx with
    | none => rw [e1] at e; simp at e
    | some k =>
      rw [e1] at e
      cases e
      obtain ⟨p, kvs, rfl, hq, ds⟩ := dy.dic'
      exact h5 pins s σ H _ _ v u Q I rx ry ⟨p, valV kvs k, rfl, .inl ⟨kvs, k, hq, dx.key e1, rfl⟩, by rw [valK_isSome ds k]; exact q⟩
  | _ => simp [inR] at e
theorem op_inDict (hu : X.A.units + 1 < cLine) : OpR X (compareOp .In) (fun y x H Q => ∃ a o, x = .ref a ∧ DGet H a y o ∧ Q (.bl (id o.isSome)) H) := by
  intro pins s σ H y x v u Q I ry rx h
  obtain ⟨a, o, rfl, g, q⟩ := h
  cases rx
  exact d_in hu I g ry fun s' I' => ⟨.bl _, _, I', rfl, q⟩
theorem op_ninDict (hu : X.A.units + 1 < cLine) : OpR X (compareOp .NotIn) (fun y x H Q => ∃ a o, x = .ref a ∧ DGet H a y o ∧ Q (.bl (not o.isSome)) H) := by
  intro pins s σ H y x v u Q I ry rx h
  obtain ⟨a, o, rfl, g, q⟩ := h
  cases rx
  exact d_notIn hu I g ry fun s' I' => ⟨.bl _, _, I', rfl, q⟩
theorem op_inR (hu : X.A.units + 65 < cLine) : OpR X (compareOp .In) (rCmp X.K .In) := by
  intro pins s σ H x y v u Q I rx ry h
  obtain ⟨tx, ty, b, dx, dy, e, q⟩ := h
  refine in_core (sg := id) hu op_in_sign op_in_str (op_inD hu) ?_ (op_inDict (by omega)) I rx ry dx dy e q
  intro pins s σ H x y v u Q I rx ry h
  obtain ⟨p, xs, a, b, c, d, q⟩ := h
  exact op_in_seq pins s σ H x y v u Q I rx ry ⟨p, xs, a, b, c, d, q⟩
theorem op_ninR (hu : X.A.units + 65 < cLine) : OpR X (compareOp .NotIn) (rCmp X.K .NotIn) := by
  intro pins s σ H x y v u Q I rx ry h
  obtain ⟨tx, ty, b, dx, dy, e, q⟩ := h
  obtain ⟨b', e', rfl⟩ := Option.map_eq_some_iff.mp (show (inR tx ty).map not = some b from e)
  refine in_core (sg := not) hu op_notIn_sign op_notIn_str (op_notInD hu) ?_ (op_ninDict (by omega)) I rx ry dx dy e' q
  intro pins s σ H x y v u Q I rx ry h
  obtain ⟨p, xs, a, b, c, d, q⟩ := h
  exact op_notIn_seq pins s σ H x y v u Q I rx ry ⟨p, xs, a, b, c, d, q⟩
def isNon : T → Bool
  | .non => true
  | _ => false
theorem is_non {K : PySem.W.Frag} {H : Hp} {x : V} {t : T} (d : Den K H x t) : decide (x = .non) = isNon t := by
  cases d <;> rfl
theorem op_isR : OpR X (compareOp .Is) (rCmp X.K .Is) := by
  intro pins s σ H x y v u Q I rx ry h
  obtain ⟨tx, ty, b, dx, dy, e, q⟩ := h
  cases ty <;> simp only [cmpR, Option.some.injEq, reduceCtorEq] at e
  have : decide (x = .non) = b := by rw [is_non dx, ← e]; cases tx <;> rfl
  exact op_isN pins s σ H x y v u Q I rx ry ⟨dy.is_non, by rw [this]; exact q⟩
theorem op_isnR : OpR X (compareOp .IsNot) (rCmp X.K .IsNot) := by
  intro pins s σ H x y v u Q I rx ry h
  obtain ⟨tx, ty, b, dx, dy, e, q⟩ := h
  cases ty <;> simp only [cmpR, Option.some.injEq, reduceCtorEq] at e
  refine op_notN pins s σ H x y v u Q I rx ry ⟨dy.is_non, ?_⟩
  have : (!decide (x = .non)) = b := by rw [is_non dx, ← e]; cases tx <;> rfl
  rw [this]; exact q
/-- every comparison -/
theorem op_cmpR (hu : X.A.units + 65 < cLine) (op : CmpOp) : OpR X (compareOp op) (rCmp X.K op) := by
  cases op with
  | Eq => exact op_eqR (by omega)
  | NotEq => exact op_neR (by omega)
  | Lt => exact op_ordR (.inl rfl)
  | LtE => exact op_ordR (.inr (.inl rfl))
  | Gt => exact op_ordR (.inr (.inr (.inl rfl)))
  | GtE => exact op_ordR (.inr (.inr (.inr rfl)))
  | In => exact op_inR hu
  | NotIn => exact op_ninR hu
  | Is => exact op_isR
  | IsNot => exact op_isnR
end

/-! # arithmetic -/
def mulOk (i j : Int) : Bool := decide (-(2 ^ 64) < i ∧ i < 2 ^ 64) || decide (-(2 ^ 64) < j ∧ j < 2 ^ 64) || decide (i.natAbs.log2 + j.natAbs.log2 < 1000000)
/-- a result without an address of its own: a value or a new thing of denotations -/
inductive Rv where
  | val (t : T) | lst (xs : List T) | tup (xs : List T)
def addR (x y : T) : Option Rv :=
  match x, y with
  | .int i, .int j => some (.val (.int (i + j)))
  | .str i, .str j => if i.length + j.length ≤ sizeLine then some (.val (.str (i ++ j))) else none
  | .tup a, .tup b => if a.length + b.length ≤ sizeLine then some (.tup (a ++ b)) else none
  | .lst a, .lst b => if a.length + b.length ≤ sizeLine then some (.lst (a ++ b)) else none
  | _, _ => none
def binR (op : Operator) (x y : T) : Option Rv :=
  match op, x, y with
  | .Add, x, y => addR x y
  | .Sub, .int i, .int j => some (.val (.int (i - j)))
  | .Mult, .int i, .int j => if mulOk i j = true then some (.val (.int (i * j))) else none
  | .FloorDiv, .int i, .int j => if 0 < j ∧ j.natAbs.log2 < 9000 then some (.val (.int (i / j))) else if j ≠ 0 ∧ j.natAbs < 1073741824 then some (.val (.int (i.fdiv j))) else none
  | .Mod, .int i, .int j => if 0 < j then some (.val (.int (i % j))) else if j ≠ 0 then some (.val (.int (i.fmod j))) else none
  | .Pow, .int i, .int j => if 0 ≤ j ∧ j ≤ 1000000 ∧ i.natAbs < 2 ^ 64 then some (.val (.int (i ^ j.toNat))) else none
  | _, _, _ => none
/-- what such a result is at a value: old, or a new list or tuple -/
def RvAt (K : PySem.W.Frag) (H F : Hp) (Q : VK) : Rv → Prop
  | .val t => ∀ v, Den K F v t → Q v H
  | .lst xs => ∀ p vs, H p = none → DenAll K F vs xs → Q (.ref p) (upd H p (.lst vs))
  | .tup xs => (∀ p vs, H p = none → DenAll K F vs xs → Q (.ref p) (upd H p (.tup vs))) ∧ ∀ v, Den K F v (.tup xs) → Q v H
def rBin (K : PySem.W.Frag) (op : Operator) : R2 := fun x y H Q => ∃ F tx ty r, Same F H ∧ VR K H F x tx ∧ VR K H F y ty ∧ binR op tx ty = some r ∧ RvAt K H F Q r
theorem VR.tupF {K : PySem.W.Frag} {H F : Hp} {v : V} {xs : List T} (h : VR K H F v (.tup xs)) : Den K F v (.tup xs) := by cases h with | fz d => exact d
theorem VR.lstF {K : PySem.W.Frag} {H F : Hp} {v : V} {xs : List T} (s : Same F H) (h : VR K H F v (.lst xs)) : ∃ a vs, v = .ref a ∧ H a = some (.lst vs) ∧ DenAll K F vs xs := by
  cases h with
  | fz d => obtain ⟨a, vs, e, h, d⟩ := d.lstF; exact ⟨a, vs, e, s _ _ h, d⟩
  | lst e d => exact ⟨_, _, rfl, e, d⟩
theorem VR.dicF {K : PySem.W.Frag} {H F : Hp} {v : V} {xs : List (Key × T)} (s : Same F H) (h : VR K H F v (.dic xs)) : ∃ a vs, v = .ref a ∧ Rd H a (.dK vs) ∧ DenKV K F vs xs := by
  cases h with
  | fz d => obtain ⟨a, vs, e, h, d⟩ := d.dic'; exact ⟨a, vs, e, rd_mono s h, d⟩
  | dic e d => exact ⟨_, _, rfl, e, d⟩
theorem VR.rlstF {K : PySem.W.Frag} {H F : Hp} {v : V} {xs : List T} (s : Same F H) (h : VR K H F v (.rlst xs)) : ∃ a vs, v = .ref a ∧ SqL K H a vs ∧ DenAll K F vs xs := by
  cases h with
  | fz d =>
    cases d with
    | rlst h d => exact ⟨_, _, rfl, s.seq h, d⟩
section
variable {X : Cx}
theorem op_binR (op : Operator) : OpR X (binaryOp op) (rBin X.K op) := by
  intro pins s σ H x y v u Q I rx ry h
  obtain ⟨F, tx, ty, r, hs, vx, vy, e, q⟩ := h
  have dx := vx.den hs
  have dy := vy.den hs
  cases op with
  | Add =>
    have e : addR tx ty = some r := e
    cases tx <;> cases ty <;> simp only [addR, Option.some.injEq, reduceCtorEq] at e
    · subst e
      exact op_add pins s σ H x y v u Q I rx ry ⟨_, _, dx.is_int, dy.is_int, q _ (.int _)⟩
    · split at e
      · cases e
        exact op_add_str pins s σ H x y v u Q I rx ry ⟨_, _, dx.is_str, dy.is_str, by assumption, q _ (.str _)⟩
      · simp at e
    · split at e
      · rename_i hz
        cases e
        obtain ⟨a, vs, rfl, ha, da⟩ := vx.tupF.tup'
        obtain ⟨b, ws, rfl, hb, db⟩ := vy.tupF.tup'
        have hl : vs.length + ws.length ≤ sizeLine := by rw [da.length, db.length]; exact hz
        refine op_catA pins s σ H _ _ v u Q I rx ry ⟨a, b, vs, ws, rfl, rfl, same_t hs ha, same_t hs hb, hl, ?_, ?_, ?_⟩
        · intro ex
          subst ex
          cases da
          exact q.2 _ (.tup hb db)
        · intro _ ey
          subst ey
          cases db
          rw [List.append_nil] at q
          exact q.2 _ (.tup ha da)
        · intro _ _ p hp
          exact q.1 p _ hp (da.append db)
      · simp at e
    · split at e
      · rename_i hz
        cases e
        obtain ⟨a, vs, rfl, ha, da⟩ := vx.lstF hs
        obtain ⟨b, ws, rfl, hb, db⟩ := vy.lstF hs
        exact op_cat pins s σ H _ _ v u Q I rx ry ⟨a, b, vs, ws, rfl, rfl, ha, hb, by rw [da.length, db.length]; exact hz, fun p hp => q p _ hp (da.append db)⟩
      · simp at e
  | Sub =>
    cases tx <;> cases ty <;> simp only [binR, Option.some.injEq, reduceCtorEq] at e
    subst e
    exact op_sub pins s σ H x y v u Q I rx ry ⟨_, _, dx.is_int, dy.is_int, q _ (.int _)⟩
  | Mult =>
    cases tx <;> cases ty <;> simp only [binR, Option.some.injEq, reduceCtorEq] at e
    split at e
    · rename_i hm
      cases e
      simp only [mulOk, Bool.or_eq_true, decide_eq_true_eq] at hm
      rcases hm with (hm | hm) | hm
      · exact op_mul pins s σ H x y v u Q I rx ry ⟨_, _, dx.is_int, dy.is_int, .inl hm, q _ (.int _)⟩
      · exact op_mul pins s σ H x y v u Q I rx ry ⟨_, _, dx.is_int, dy.is_int, .inr hm, q _ (.int _)⟩
      · exact op_mulW pins s σ H x y v u Q I rx ry ⟨_, _, dx.is_int, dy.is_int, hm, q _ (.int _)⟩
    · simp at e
  | FloorDiv =>
    cases tx <;> cases ty <;> simp only [binR, Option.some.injEq, reduceCtorEq] at e
    split at e
    · rename_i hm
      cases e
      exact op_fdivW pins s σ H x y v u Q I rx ry ⟨_, _, dx.is_int, dy.is_int, hm, q _ (.int _)⟩
    · split at e
      · rename_i hm
        cases e
        exact op_fdivN pins s σ H x y v u Q I rx ry ⟨_, _, dx.is_int, dy.is_int, hm, q _ (.int _)⟩
      · simp at e
  | Mod =>
    cases tx <;> cases ty <;> simp only [binR, Option.some.injEq, reduceCtorEq] at e
    split at e
    · rename_i hm
      cases e
      exact op_mod pins s σ H x y v u Q I rx ry ⟨_, _, dx.is_int, dy.is_int, hm, q _ (.int _)⟩
    · split at e
      · rename_i hm
        cases e
        exact op_modN pins s σ H x y v u Q I rx ry ⟨_, _, dx.is_int, dy.is_int, hm, q _ (.int _)⟩
      · simp at e
  | Pow =>
    cases tx <;> cases ty <;> simp only [binR, Option.some.injEq, reduceCtorEq] at e
    split at e
    · rename_i hm
      cases e
      exact op_pow pins s σ H x y v u Q I rx ry ⟨_, _, dx.is_int, dy.is_int, hm, q _ (.int _)⟩
    · simp at e
  | _ => simp [binR] at e
end

/-! # subscripts, truth, length -/
def ixR (x y : T) : Option T :=
  match x, y with
  | .lst xs, .int i => atI xs i
  | .rlst xs, .int i => atI xs i
  | .tup xs, .int i => atI xs i
  | .str z, .int i => if z.length ≤ sizeLine then (atI z.cps.toList i).map fun c => .str ⟨#[c]⟩ else none
  | .dic kts, y => match keyT y with | some k => valT kts k | none => none
  | _, _ => none
theorem atI_den {K : PySem.W.Frag} {H : Hp} {vs : List V} {ts : List T} {i : Int} {t : T} (d : DenAll K H vs ts) (e : atI ts i = some t) : ∃ u, atI vs i = some u ∧ Den K H u t := by
  unfold atI at e ⊢
  rw [d.length]
  cases ej : ixN ts.length i with
  | none => rw [ej] at e; simp at e
  | some j =>
    rw [ej] at e
    exact d.get (i := j) (by simpa using e)
def rIxR (K : PySem.W.Frag) : R2 := fun x y H Q => ∃ F tx ty t, Same F H ∧ VR K H F x tx ∧ Den K H y ty ∧ ixR tx ty = some t ∧ ∀ v, Den K F v t → Q v H
section
variable {X : Cx}
theorem ix_dict (hu : X.A.units + 1 < cLine) : IxR X (fun x y H Q => ∃ a v, x = .ref a ∧ DGet H a y (some v) ∧ Q v H) := by
  intro value slice pins s σ H x y v u Q I rx ry h hs
  obtain ⟨a, w, rfl, g, q⟩ := h
  cases rx
  have hT := dict_typeIs I g
  unfold subscriptTail
  refine wpAny_bind ?_
  rw [getitemInPython_of_ne hT.not_modules]
  refine wpAny_bind (wpAny_specialOf hT PySem.F.slot_dict_getitem.lookup ?_)
  have fin : wpAny (model X.prog X.w) X.A (subscripted slice false (.ref a) u) (fun r s₃ => wpAny (model X.prog X.w) X.A (letTemporaryGo value (.ref a) r >>= fun _ => pure r) (EP X pins σ Q) X.xe s₃) X.xe s := by
    rw [hs]
    exact wpAny_operating (d_getItem hu I g ry fun w' s3 I3 rw' => wpAny_bind (wpAny_letTemporaryGo (wpAny_pure ⟨w, H, I3, rw', q⟩)))
  first
    | exact wpAny_pure (wpAny_bind fin)
    | exact wpAny_bind (wpAny_pure (wpAny_bind fin))
    | exact wpAny_bind fin
theorem ix_R (hu : X.A.units + 1 < cLine) : IxR X (rIxR X.K) := by
  intro value slice pins s σ H x y v u Q I rx ry h hs
  obtain ⟨F, tx, ty, t, hF, dx, dy, e, q⟩ := h
  have seq : ∀ {xs : List T} {i : Int}, ty = .int i → atI xs i = some t → (∃ a vs, x = .ref a ∧ (SqL X.K H a vs ∨ SqT X.K H a vs) ∧ DenAll X.K F vs xs) →
      wpAny (model X.prog X.w) X.A (subscriptTail value slice v u) (EP X pins σ Q) X.xe s := by
    intro xs i ey ea ⟨a, vs, ex, hq, ds⟩
    subst ey ex
    obtain ⟨w, ew, dw⟩ := atI_den ds ea
    rcases hq with hq | hq
    · exact ix_list value slice pins s σ H _ y v u Q I rx ry ⟨a, vs, i, w, rfl, dy.is_int, hq, ew, q w dw⟩ hs
    · exact ix_tup value slice pins s σ H _ y v u Q I rx ry ⟨a, vs, i, w, rfl, dy.is_int, hq, ew, q w dw⟩ hs
  cases tx with
  | lst xs =>
    cases ty <;> simp only [ixR, reduceCtorEq] at e
    obtain ⟨a, vs, ex, hq, ds⟩ := dx.lstF hF
    exact seq rfl e ⟨a, vs, ex, .inl (.inl (.inl hq)), ds⟩
  | rlst xs =>
    cases ty <;> simp only [ixR, reduceCtorEq] at e
    obtain ⟨a, vs, ex, hq, ds⟩ := dx.rlstF hF
    exact seq rfl e ⟨a, vs, ex, .inl hq, ds⟩
  | tup xs =>
    cases ty <;> simp only [ixR, reduceCtorEq] at e
    obtain ⟨a, vs, ex, hq, ds⟩ := dx.tupF.tup'
    exact seq rfl e ⟨a, vs, ex, .inr (same_t hF hq), ds⟩
  | str z =>
    cases ty <;> simp only [ixR, reduceCtorEq] at e
    split at e
    · rename_i i hz
      obtain ⟨c, ec, rfl⟩ := Option.map_eq_some_iff.mp e
      exact ix_str value slice pins s σ H _ y v u Q I rx ry ⟨z, i, c, (dx.den hF).is_str, dy.is_int, hz, ec, q _ (.str _)⟩ hs
    · simp at e
  | dic kts =>
    simp only [ixR] at e
    cases ek : keyT ty with
    | none => rw [ek] at e; simp at e
    | some k =>
      rw [ek] at e
      obtain ⟨a, kvs, rfl, hq, ds⟩ := dx.dicF hF
      rcases ds.val k with ⟨w, t', e1, e2, dw⟩ | ⟨_, e2⟩
      · simp only at e
        rw [e] at e2
        cases e2
        exact ix_dict hu value slice pins s σ H _ y v u Q I rx ry ⟨a, w, rfl, .inl ⟨kvs, k, hq, dy.key ek, e1.symm⟩, q w dw⟩ hs
      · simp only at e
        rw [e] at e2
        cases e2
  | _ => simp [ixR] at e
end
def truR (x : T) : Option Bool :=
  match x with
  | .non => some false
  | .bl b => some b
  | .int i => some (i != 0)
  | .str y => if y.length ≤ sizeLine then some ((y.length : Int) != 0) else none
  | .lst xs => some (!xs.isEmpty)
  | .rlst xs => some (!xs.isEmpty)
  | .tup xs => some (!xs.isEmpty)
  | .dic _ => none
theorem DenAll.isEmpty {K : PySem.W.Frag} {H : Hp} {vs : List V} {ts : List T} (d : DenAll K H vs ts) : vs.isEmpty = ts.isEmpty := by cases d <;> rfl
theorem DenKV.isEmpty {K : PySem.W.Frag} {H : Hp} {vs : List (Key × V)} {ts : List (Key × T)} (d : DenKV K H vs ts) : vs.isEmpty = ts.isEmpty := by cases d <;> rfl
theorem Den.tru {K : PySem.W.Frag} {H : Hp} {x : V} {t : T} {b : Bool} (d : Den K H x t) (e : truR t = some b) : TruV K x H b := by
  cases d with
  | non => cases e; exact rfl
  | bl b => cases e; exact rfl
  | int i => cases e; exact rfl
  | str s =>
    simp only [truR] at e
    split at e
    · cases e; exact ⟨by assumption, rfl⟩
    · simp at e
  | tup h d => cases e; exact .inr (.inl ⟨_, h, by rw [d.isEmpty]⟩)
  | lst h d => cases e; exact .inl ⟨_, .inl (.inl h), by rw [d.isEmpty]⟩
  | rlst h d => cases e; exact .inl ⟨_, h, by rw [d.isEmpty]⟩
  | dic h d => cases e
def lenR (x : T) : Option Int :=
  match x with
  | .str y => if y.length ≤ sizeLine then some y.length else none
  | .lst xs => some xs.length
  | .rlst xs => some xs.length
  | .tup xs => some xs.length
  | _ => none
end G
namespace G
open PySem PySem.Spec PyProof.Rows L2

/-! # the small language -/
/-- built-ins of plain values -/
inductive BI where
  | len | int | abs | str | list | tuple | max2 | min2 | all | gcd | repr | sortedS | bool | sum | sortedI | sorted
  deriving DecidableEq, Repr
/-- methods of texts and ints that hand back a value -/
inductive Me0 where
  | bits | strip | isdigit
  deriving DecidableEq, Repr
inductive Me1 where
  | join | split | startswith
  deriving DecidableEq, Repr
/-- methods that change the list in a slot -/
inductive Mu where
  | append | extend | pop | insert
  deriving DecidableEq, Repr
inductive Tgt where
  | name (i : Nat)
  | tup (is : List Nat)
  deriving DecidableEq, Repr

mutual
inductive IE where
  | var (i : Nat)
  | mov (i : Nat)
  | non | bl (b : Bool) | int (i : Int) | str (s : Str)
  | glob (j : Nat)
  | bin (op : Operator) (a b : IE)
  | neg (a : IE)
  | not (a : IE)
  | and (a b : IE)
  | or (a b : IE)
  | cmp (op : CmpOp) (a b : IE)
  | chain (op op' : CmpOp) (a b c : IE)
  | ifx (c : IB) (a b : IE)
  | tup (es : IEs)
  | lst (es : IEs)
  | dnew
  | call (f : Nat) (args : IEs)
  | bi (b : BI) (args : IEs)
  | isin (a : IE) (tys : List String)
  | ix (a i : IE)
  | sl (a : IE) (lo hi : IO)
  | met0 (m : Me0) (o : IE)
  | met1 (m : Me1) (o a : IE)
  | dget2 (o k x : IE)
  | sortLF (e : IE)
  | lc (src : Src) (tg : Tgt) (cond : IBO) (elt : IE) (own : List (Str × Nat))
  | dc (src : Src) (tg : Tgt) (cond : IBO) (key val : IE) (own : List (Str × Nat))
  | lockd (i : Nat) (e : IE)
  | disp (es : IEs)
  | fstr (es : IEs)
inductive IEs where
  | nil
  | cons (e : IE) (es : IEs)
inductive IO where
  | none
  | some (e : IE)
inductive IB where
  | val (e : IE)
  | not (a : IB)
  | and (a b : IB)
  | or (a b : IB)
inductive IBO where
  | none
  | some (e : IB)
inductive Src where
  | seq (e : IE)
  | rng1 (e : IE)
  | rng2 (a b : IE)
  | zip (a b : IE)
end
mutual
inductive IS where
  | asg (i : Nat) (e : IE)
  | asgT (is : List Nat) (e : IE)
  | par (i j : Nat) (a b : IE)
  | setix (c : Nat) (ix v : IE)
  | mut (m : Mu) (c : Nat) (args : IEs)
  | expr (e : IE)
  | ret (e : IE)
  | retN
  | pass
  | brk
  | cont
  | ite (c : IB) (a b : ISs)
  | for (tg : Tgt) (src : Src) (body : ISs)
  | while (c : IB) (body : ISs)
  | raise (n : String) (msg : Str)
  | try (body : ISs) (n : String) (suite : ISs)
inductive ISs where
  | nil
  | cons (s : IS) (ss : ISs)
end

/-! # its meaning -/
def ofO {α : Type} : Option α → Env → Out α
  | .some a, env => .ok a env
  | .none, _ => .stuck
def rvR : Rv → R
  | .val t => .val t
  | .lst xs => .new (.lst xs)
  | .tup xs => .val (.tup xs)
/-- a result as a frozen value -/
def esc (env : Env) : R → Option T
  | .val t => some t
  | .new o => some (frz o)
  | .loan i => match env[i]? with | some (some (.val t)) => some t | _ => none
def escs (env : Env) : List R → Option (List T)
  | [] => some []
  | r :: rs => match esc env r, escs env rs with | some t, some ts => some (t :: ts) | _, _ => none
def lookT (env : Env) (r : R) : Option T := (look env r).map toT
def looks (env : Env) : List R → Option (List T)
  | [] => some []
  | r :: rs => match lookT env r, looks env rs with | some t, some ts => some (t :: ts) | _, _ => none

inductive Res where
  | ok (r : Iv) (outs : List Iv)
  | exc (x : Xv) (outs : List Iv)
  | stuck
def argsOf (env : Env) : List R → Option (List Iv)
  | [] => some []
  | r :: rs => match look env r, argsOf env rs with | some t, some ts => some (t :: ts) | _, _ => none
/-- the slots that are lent, with what they own -/
def lent (env : Env) : List R → List Nat
  | [] => []
  | .loan i :: rs => match env[i]? with | some (some (.val _)) => lent env rs | _ => i :: lent env rs
  | _ :: rs => lent env rs
/-- the lent slots behind a call -/
def back (env : Env) : List R → List Iv → Env
  | .loan i :: rs, o :: os => back (match env[i]? with | some (some (.own _)) => env.set i (some o) | _ => env) rs os
  | _ :: rs, _ :: os => back env rs os
  | _, _ => env
def ivR : Iv → Option R
  | .val t => some (.val t)
  | .own o => some (.new o)
  | .lck _ => none
def callR (C : Nat → List Iv → Res) (f : Nat) (dfl : List T) (env : Env) (rs : List R) : Out R :=
  match argsOf env rs with
  | none => .stuck
  | some ivs => if (lent env rs).Nodup then
      match C f (ivs ++ dfl.map Iv.val) with
      | .ok r outs => match ivR r with | some r => .ok r (back env rs outs) | none => .stuck
      | .exc x outs => .exc x (back env rs outs)
      | .stuck => .stuck
    else .stuck

/-- insertion into a sorted row, the sorted row -/
def insS (x : Str) : List Str → List Str
  | [] => [x]
  | y :: ys => if x.cps.toList < y.cps.toList then x :: y :: ys else y :: insS x ys
def sortS (xs : List Str) : List Str := xs.foldr insS []
def insI (x : Int) : List Int → List Int
  | [] => [x]
  | y :: ys => if x ≤ y then x :: y :: ys else y :: insI x ys
def sortI (xs : List Int) : List Int := xs.foldr insI []
def strsT : List T → Option (List Str)
  | [] => some []
  | .str s :: ts => (strsT ts).map (s :: ·)
  | _ => none
def intsT : List T → Option (List Int)
  | [] => some []
  | .int s :: ts => (intsT ts).map (s :: ·)
  | _ => none
def blsT : List T → Option (List Bool)
  | [] => some []
  | .bl s :: ts => (blsT ts).map (s :: ·)
  | _ => none
/-- repr of nested lists and tuples -/
def isSq : T → Bool
  | .lst _ => true
  | .tup _ => true
  | _ => false
def reprT (t : T) : Option Str := if (isSq t && fitT 40 t && (toD 40 t).showable && decide ((toD 40 t).shown.length ≤ sizeLine)) = true then some (toD 40 t).shown else none
def biR (b : BI) (ts : List T) : Option Rv :=
  match b, ts with
  | .len, [t] => (lenR t).map fun n => .val (.int n)
  | .int, [.int i] => some (.val (.int i))
  | .int, [.bl b] => some (.val (.int (if b then 1 else 0)))
  | .bool, [.int i] => some (.val (.bl (i != 0)))
  | .bool, [.bl b] => some (.val (.bl b))
  | .abs, [.int i] => some (.val (.int (if i < 0 then -i else i)))
  | .str, [.int i] => if i.natAbs.log2 < 1920 then some (.val (.str (toString i))) else none
  | .max2, [.int i, .int j] => some (.val (.int (if j > i then j else i)))
  | .min2, [.int i, .int j] => some (.val (.int (if j < i then j else i)))
  | .list, [t] => (seqA t).map .lst
  | .tuple, [.tup xs] => some (.val (.tup xs))
  | .tuple, [t] => (seqL t).map .tup
  | .all, [t] => ((seqL t).bind blsT).map fun bs => .val (.bl (bs.all id))
  | .sum, [t] => ((seqL t).bind intsT).map fun bs => .val (.int bs.sum)
  | .gcd, [.int i, .int j] => some (.val (.int ((Nat.gcd i.natAbs j.natAbs : Nat) : Int)))
  | .sortedS, [t] => ((seqL t).bind strsT).bind fun ss => if ss.length < 64 then some (.lst ((sortS ss).map T.str)) else none
  | .sortedI, [t] => ((seqL t).bind intsT).bind fun ss => if ss.length < 64 then some (.lst ((sortI ss).map T.int)) else none
  | .sorted, [t] => match (seqL t).bind strsT with
    | some ss => if ss.length < 64 then some (.lst ((sortS ss).map T.str)) else none
    | none => ((seqL t).bind intsT).bind fun ss => if ss.length < 64 then some (.lst ((sortI ss).map T.int)) else none
  | .repr, [t] => (reprT t).map fun s => .val (.str s)
  | _, _ => none
def tyName : T → String
  | .non => "NoneType"
  | .bl _ => "bool"
  | .int _ => "int"
  | .str _ => "str"
  | .tup _ => "tuple"
  | .lst _ => "list"
  | .rlst _ => "list"
  | .dic _ => "dict"
def isDicT : T → Bool
  | .dic _ => true
  | _ => false
def isinR (t : T) (tys : List String) : Bool := tys.any fun n => n == tyName t || (tyName t == "bool" && n == "int")
def met0R (m : Me0) (t : T) : Option Rv :=
  match m, t with
  | .bits, .int i => some (.val (.int (Builtin.Int.intBits i : Nat)))
  | .strip, .str s => if s.length ≤ sizeLine then some (.val (.str (Txt.strip s))) else none
  | .isdigit, .str s => some (.val (.bl (Txt.isdigit s)))
  | _, _ => none
def met1R (m : Me1) (s : Str) (t : T) : Option Rv :=
  match m, t with
  | .join, t => ((seqA t).bind strsT).bind fun ss => if (ss.map Str.length).sum + ss.length * s.length ≤ 16777216 then some (.val (.str (Txt.join s ss))) else none
  | .split, .str b => if (b.length == 0) = false ∧ s.length + 2 ≤ sizeLine then some (.lst ((Txt.split s b).map T.str)) else none
  | .startswith, .str b => some (.val (.bl (Txt.startswith s b)))
  | _, _ => none

def cutT (xs : List T) (lo hi : Option Int) : List T := (xs.drop (HT.sIx xs.length 0 lo)).take (HT.sIx xs.length xs.length hi - HT.sIx xs.length 0 lo)
def slR (x : T) (lo hi : Option Int) : Option Rv := match x with
  | .lst xs => some (.lst (cutT xs lo hi))
  | .rlst xs => some (.lst (cutT xs lo hi))
  | .tup xs => some (.tup (cutT xs lo hi))
  | .str z => if z.length ≤ sizeLine then some (.val (.str (cutS z lo hi))) else none
  | _ => none
def wipeE (env : Env) : List Nat → Env
  | [] => env
  | v :: vs => (wipeE env vs).set v none
def bindAll (fx : Nat → Bool) : List Nat → List T → Env → Option Env
  | [], [], env => some env
  | i :: is, t :: ts, env => if i < env.length ∧ fx i = false then bindAll fx is ts (env.set i (some (.val t))) else none
  | _, _, _ => none
def bindT (fx : Nat → Bool) (tg : Tgt) (t : T) (env : Env) : Option Env :=
  match tg with
  | .name i => bindAll fx [i] [t] env
  | .tup is => match t with
    | .tup ts => bindAll fx is ts env
    | _ => none
def lcLoop (step : T → Env → Out (Option T)) : List T → List T → Env → Out (List T)
  | [], acc, env => .ok acc env
  | t :: ts, acc, env => (step t env).bind fun o e => match o with
    | some x => if acc.length < sizeLine then lcLoop step ts (acc ++ [x]) e else .stuck
    | none => lcLoop step ts acc e
def dcLoop (step : T → Env → Out (Option (Key × T))) : List T → List (Key × T) → Env → Out (List (Key × T))
  | [], acc, env => .ok acc env
  | t :: ts, acc, env => (step t env).bind fun o e => match o with
    | some kt => if acc.length < sizeLine then dcLoop step ts (putT acc kt.1 kt.2) e else .stuck
    | none => dcLoop step ts acc e
/-- keys and values by turns -/
def pairUp : List T → Option (List (Key × T))
  | [] => some []
  | k :: v :: r => (keyT k).bind fun k => (pairUp r).map ((k, v) :: ·)
  | _ => none
def mergeT (more : List (Key × T)) : List (Key × T) := more.foldl (fun acc kv => putT acc kv.1 kv.2) []
/-- an f-string's parts, one behind the other -/
def valsR : List R → Option (List T)
  | [] => some []
  | .val t :: rs => (valsR rs).map (t :: ·)
  | _ => none
def joinF : List T → Str → Option Str
  | [], acc => some acc
  | .int i :: ts, acc => if i.natAbs.log2 < 1920 ∧ (acc ++ (toString i : Str)).length ≤ sizeLine then joinF ts (acc ++ (toString i : Str)) else none
  | .str y :: ts, acc => if y.length ≤ sizeLine ∧ (acc ++ y).length ≤ sizeLine then joinF ts (acc ++ y) else none
  | _, _ => none
def noexc {α : Type} : Out α → Out α
  | .ok a e => .ok a e
  | _ => .stuck
def lockE (env : Env) : Option Nat → Env
  | none => env
  | some i => match env[i]? with | some (some (.own (.lst o))) => env.set i (some (.lck (.lst o))) | _ => env
def unlockE (env : Env) : Option Nat → Env
  | none => env
  | some i => match env[i]? with | some (some (.lck (.lst o))) => env.set i (some (.own (.lst o))) | _ => env
def lockOf (env : Env) : R → Option Nat
  | .loan i => match env[i]? with | some (some (.own (.lst _))) => some i | _ => none
  | _ => none
/-- a dict is locked, and set free -/
def lockD (env : Env) (i : Nat) : Env := match env[i]? with | some (some (.own (.dic o))) => env.set i (some (.lck (.dic o))) | _ => env
def isD (env : Env) (i : Nat) : Bool := match env[i]? with | some (some (.own (.dic _))) => true | _ => false
def unlockR {α : Type} (i : Nat) : Out α → Out α
  | .ok a e => match e[i]? with | some (some (.lck (.dic o))) => .ok a (e.set i (some (.own (.dic o)))) | _ => .stuck
  | .exc _ _ => .stuck
  | .stuck => .stuck
/-- the keys of a locked dict -/
def keysT (kts : List (Key × T)) : List T := kts.map fun kv => match kv.1 with | .inl i => .int i | .inr s => .str s
def dicOf (env : Env) : R → Option (List (Key × T))
  | .loan i => match env[i]? with | some (some (.lck (.dic kts))) => some kts | _ => none
  | _ => none
def rngT (lo : Int) (n : Nat) : List T := (List.range n).map fun (k : Nat) => T.int (lo + (k : Int))
/-- what is walked -/
def seqI : T → Option (List T)
  | .lst xs => some xs
  | .rlst xs => some xs
  | .tup xs => some xs
  | .str s => some (s.cps.toList.map fun c => T.str ⟨#[c]⟩)
  | _ => none
def zipT : List T → List T → List T
  | x :: xs, y :: ys => .tup [x, y] :: zipT xs ys
  | _, _ => []
/-- sorted by length, then by the items -/
def lexI : List Int → List Int → Bool
  | [], _ => true
  | _ :: _, [] => false
  | x :: xs, y :: ys => decide (x < y) || (decide (x = y) && lexI xs ys)
def leLF (a b : List Int) : Bool := decide (a.length < b.length) || (decide (a.length = b.length) && lexI a b)
def insLF (x : List Int) : List (List Int) → List (List Int)
  | [] => [x]
  | y :: ys => if leLF x y = true then x :: y :: ys else y :: insLF x ys
def sortLF (l : List (List Int)) : List (List Int) := l.foldr insLF []
def rowT (ns : List Int) : T := .tup (ns.map T.int)
def rowsI : List T → Option (List (List Int))
  | [] => some []
  | .tup ts :: r => (intsT ts).bind fun ns => (rowsI r).map (ns :: ·)
  | _ => none
def inRng (j : Int) : Bool := Nat.ble j.natAbs 4611686018427387903
theorem inRng_of {j : Int} (h : inRng j = true) : -(2 ^ 62) ≤ j ∧ j < 2 ^ 62 := by
  have := Nat.le_of_ble_eq_true h
  omega

def IEs.len : IEs → Nat
  | .nil => 0
  | .cons _ es => es.len + 1
section
variable (C : Nat → List Iv → Res) (G : Nat → T) (D : Nat → Nat → List T)
mutual
def ev : IE → Env → Out R
  | .var i, env => match env[i]? with
    | some (some (.val t)) => .ok (.val t) env
    | some (some _) => .ok (.loan i) env
    | _ => .stuck
  | .mov i, env => match env[i]? with
    | some (some (.val t)) => .ok (.val t) env
    | some (some (.own o)) => .ok (.val (frz o)) (env.set i (some (.val (frz o))))
    | _ => .stuck
  | .non, env => .ok (.val .non) env
  | .bl b, env => .ok (.val (.bl b)) env
  | .int b, env => .ok (.val (.int b)) env
  | .str b, env => .ok (.val (.str b)) env
  | .glob j, env => .ok (.val (G j)) env
  | .bin op a b, env => (ev a env).bind fun ra e1 => (ev b e1).bind fun rb e2 => ofO ((lookT e2 ra).bind fun x => (lookT e2 rb).bind fun y => (binR op x y).map rvR) e2
  | .neg a, env => (ev a env).bind fun ra e1 => match ra with | .val (.int i) => .ok (.val (.int (-i))) e1 | _ => .stuck
  | .not a, env => (ev a env).bind fun ra e1 => match ra with | .val (.bl i) => .ok (.val (.bl (!i))) e1 | _ => .stuck
  | .and a b, env => (ev a env).bind fun ra e1 => match ra with | .val (.bl true) => ev b e1 | .val (.bl false) => .ok (.val (.bl false)) e1 | _ => .stuck
  | .or a b, env => (ev a env).bind fun ra e1 => match ra with | .val (.bl false) => ev b e1 | .val (.bl true) => .ok (.val (.bl true)) e1 | _ => .stuck
  | .cmp op a b, env => (ev a env).bind fun ra e1 => (ev b e1).bind fun rb e2 => ofO ((lookT e2 ra).bind fun x => (lookT e2 rb).bind fun y => (cmpR op x y).map fun b => R.val (.bl b)) e2
  | .chain op op' a b c, env => (ev a env).bind fun ra e1 => (ev b e1).bind fun rb e2 =>
      match ((lookT e2 ra).bind fun x => (lookT e2 rb).bind fun y => cmpR op x y) with
      | some true => (ev c e2).bind fun rc e3 => ofO ((lookT e3 rb).bind fun x => (lookT e3 rc).bind fun y => (cmpR op' x y).map fun b => R.val (.bl b)) e3
      | some false => .ok (.val (.bl false)) e2
      | none => .stuck
  | .ifx c a b, env => (evT c env).bind fun k e1 => if k then ev a e1 else ev b e1
  | .tup es, env => (evs es env).bind fun rs e1 => ofO ((escs e1 rs).bind fun ts => if ts.length ≤ sizeLine then some (R.val (.tup ts)) else none) e1
  | .lst es, env => (evs es env).bind fun rs e1 => ofO ((escs e1 rs).bind fun ts => if ts.length ≤ sizeLine then some (R.new (.lst ts)) else none) e1
  | .dnew, env => .ok (.new (.dic [])) env
  | .call f args, env => (evs args env).bind fun rs e1 => callR C f (D f args.len) e1 rs
  | .bi b args, env => (evs args env).bind fun rs e1 => ofO ((looks e1 rs).bind fun ts => (biR b ts).map rvR) e1
  | .isin a tys, env => (ev a env).bind fun ra e1 => ofO ((lookT e1 ra).bind fun t => if isDicT t then none else some (R.val (.bl (isinR t tys)))) e1
  | .ix a i, env => (ev a env).bind fun ra e1 => (ev i e1).bind fun ri e2 => ofO ((lookT e2 ra).bind fun x => (lookT e2 ri).bind fun y => (ixR x y).map R.val) e2
  | .sl a lo hi, env => (ev a env).bind fun ra e1 => (evO lo e1).bind fun rl e2 => (evO hi e2).bind fun rh e3 => ofO ((lookT e3 ra).bind fun x => (slR x rl rh).map rvR) e3
  | .met0 m o, env => (ev o env).bind fun ro e1 => match ro with | .val t => ofO ((met0R m t).map rvR) e1 | _ => .stuck
  | .met1 m o a, env => (ev o env).bind fun ro e1 => match ro with
    | .val (.str s) => (ev a e1).bind fun ra e2 => ofO ((lookT e2 ra).bind fun t => (met1R m s t).map rvR) e2
    | _ => .stuck
  | .dget2 o k x, env => (ev o env).bind fun ro e1 => match lookT e1 ro with
    | some (.dic _) => (ev k e1).bind fun rk e2 => (ev x e2).bind fun rx e3 => ofO (match lookT e3 ro, (lookT e3 rk).bind keyT, esc e3 rx with
      | some (.dic kts), some k, some t => some (R.val ((valT kts k).getD t))
      | _, _, _ => none) e3
    | _ => .stuck
  | .sortLF e, env => (ev e env).bind fun r e1 => ofO ((lookT e1 r).bind fun t => (seqL t).bind fun xs => (rowsI xs).bind fun bs => if bs.length ≤ sizeLine then some (R.new (.lst ((sortLF bs).map rowT))) else none) e1
  | .lc src tg cond elt own, env => (evSrc src env).bind fun it e1 =>
      (lcLoop (fun t e => match bindT (fun _ => false) tg t (wipeE e (own.map (·.2))) with
        | none => .stuck
        | some e2 => noexc ((evC cond e2).bind fun k e3 => if k then (ev elt e3).bind fun r e4 => ofO ((esc e4 r).map some) e4 else .ok none e3)) it.1 [] (lockE e1 it.2)).bind
        fun acc e5 => .ok (.new (.lst acc)) (unlockE (wipeE e5 (own.map (·.2))) it.2)
  | .dc src tg cond key val own, env => (evSrc src env).bind fun it e1 =>
      (dcLoop (fun t e => match bindT (fun _ => false) tg t (wipeE e (own.map (·.2))) with
        | none => .stuck
        | some e2 => noexc ((evC cond e2).bind fun k e3 => if k then (ev key e3).bind fun rk e4 => (ev val e4).bind fun rv e5 => ofO (((lookT e5 rk).bind keyT).bind fun k => (esc e5 rv).map fun t => some (k, t)) e5 else .ok none e3)) it.1 [] (lockE e1 it.2)).bind
        fun acc e5 => .ok (.new (.dic acc)) (unlockE (wipeE e5 (own.map (·.2))) it.2)
  | .lockd i e, env => if isD env i then unlockR i (ev e (lockD env i)) else ev e env
  | .disp es, env => (evs es env).bind fun rs e1 => ofO ((escs e1 rs).bind fun ts => (pairUp ts).bind fun kvs => if kvs.length ≤ 15 then some (R.new (.dic (mergeT kvs))) else none) e1
  | .fstr es, env => (noexc (evs es env)).bind fun rs e1 => ofO ((valsR rs).bind fun ts => (joinF ts Str.empty).map fun s => R.val (.str s)) e1
termination_by structural x => x
def evs : IEs → Env → Out (List R)
  | .nil, env => .ok [] env
  | .cons e es, env => (ev e env).bind fun r e1 => (evs es e1).bind fun rs e2 => .ok (r :: rs) e2
termination_by structural x => x
def evO : IO → Env → Out (Option Int)
  | .none, env => .ok none env
  | .some e, env => (ev e env).bind fun r e1 => match r with | .val (.int i) => .ok (some i) e1 | _ => .stuck
termination_by structural x => x
def evC : IBO → Env → Out Bool
  | .none, env => .ok true env
  | .some e, env => evT e env
termination_by structural x => x
def evSrc : Src → Env → Out (List T × Option Nat)
  | .seq e, env => (ev e env).bind fun r e1 => match dicOf e1 r with
    | some kts => .ok (keysT kts, none) e1
    | none => ofO ((lookT e1 r).bind fun t => (seqI t).map fun xs => (xs, lockOf e1 r)) e1
  | .rng1 e, env => (ev e env).bind fun r e1 => match r with
    | .val (.int j) => if inRng j then .ok (rngT 0 j.toNat, none) e1 else .stuck
    | _ => .stuck
  | .rng2 a b, env => (ev a env).bind fun r e1 => (ev b e1).bind fun r2 e2 => match r, r2 with
    | .val (.int i), .val (.int j) => if inRng i && inRng j then .ok (rngT i (j - i).toNat, none) e2 else .stuck
    | _, _ => .stuck
  | .zip a b, env => (ev a env).bind fun ra e1 => (ev b e1).bind fun rb e2 => ofO ((esc e2 ra).bind fun x => (esc e2 rb).bind fun y => match x, y with
    | .lst xs, .lst ys => some (zipT xs ys, none)
    | .rlst xs, .lst ys => some (zipT xs ys, none)
    | .tup xs, .tup ys => some (zipT xs ys, none)
    | _, _ => none) e2
termination_by structural x => x
def evT : IB → Env → Out Bool
  | .not a, env => (evT a env).bind fun k e1 => .ok (!k) e1
  | .and a b, env => (evT a env).bind fun k e1 => if k then evT b e1 else .ok false e1
  | .or a b, env => (evT a env).bind fun k e1 => if k then .ok true e1 else evT b e1
  | .val e, env => (ev e env).bind fun r e1 => ofO ((lookT e1 r).bind truR) e1
termination_by structural x => x
end
end
end G
namespace G
open PySem PySem.Spec PyProof.Rows L2

section
variable {K : PySem.W.Frag} {W : WX} {σ : L2.St} {env env1 env2 : Env} {H F H0 F0 H1 F1 H2 F2 : Hp} {fp fp1 fp2 : Nat → List Addr} {P0 P P1 P2 : Fp} {α β : Type}

theorem Tmp.nil : Tmp H0 P0 F P [] := fun a h => by simp at h
theorem fp_all {a : Addr} : (fpOf env fp).all a ↔ ∃ i, a ∈ fp i := Iff.rfl
theorem EnvR.notAll (E : EnvR K env σ H F fp) {p : Addr} (h : H p = none) : ¬ (fpOf env fp).all p := fun ⟨i, hi⟩ => E.here i p hi h
theorem EnvR.freeF (E : EnvR K env σ H F fp) {p : Addr} (h : H p = none) : F p = none := E.sub.free h
theorem Tmp.step {l : List Addr} (t : Tmp H0 P0 F P l) (s : Stp P H F P1 H1 F1) (h : ∀ a ∈ l, H a ≠ none) : Tmp H0 P0 F1 P1 l := fun a ha => by
  obtain ⟨h1, h2, h3⟩ := t a ha
  obtain ⟨_, g2, g3⟩ := s.fresh (h a ha) h2 h1
  exact ⟨g2, g3, h3⟩
theorem Tmp.base {l : List Addr} (t : Tmp H P F1 P1 l) (s : Stp P0 H0 F0 P H F) : Tmp H0 P0 F1 P1 l := fun a ha => by
  obtain ⟨h1, h2, h3⟩ := t a ha
  exact ⟨h1, h2, h3.elim (s.own a) s.back⟩
theorem RR.here {r : R} {v : V} {l : List Addr} (h : RR K σ H F r v l) : ∀ a ∈ l, H a ≠ none := by
  cases h with
  | val d => intro a ha; simp at ha
  | new d => exact d.here
  | loan d => intro a ha; simp at ha
theorem RR.step {r : R} {v : V} {l : List Addr} (h : RR K σ H F r v l) (t : Tmp H0 P0 F P l) (s : Stp P H F P1 H1 F1) : RR K σ H1 F1 r v l := by
  cases h with
  | val d => exact .val (d.mono s.fz)
  | new d => exact .new (d.keep (fun a ha => (s.fresh (d.here a ha) (t a ha).2.1 (t a ha).1).1) s.fz)
  | loan d => exact .loan d
theorem RRs.here {r : List R} {v : List V} {l : List Addr} (h : RRs K σ H F r v l) : ∀ a ∈ l, H a ≠ none := by
  induction h with
  | nil => intro a ha; simp at ha
  | cons h _ _ ih => intro a ha; rcases List.mem_append.mp ha with ha | ha; exact h.here a ha; exact ih a ha
theorem RRs.step {r : List R} {v : List V} {l : List Addr} (h : RRs K σ H F r v l) (t : Tmp H0 P0 F P l) (s : Stp P H F P1 H1 F1) : RRs K σ H1 F1 r v l := by
  induction h with
  | nil => exact .nil
  | cons h hs d ih => exact .cons (h.step (fun a ha => t a (List.mem_append_left _ ha)) s) (ih fun a ha => t a (List.mem_append_right _ ha)) d
theorem RR.vr {r : R} {v : V} {l : List Addr} {t : T} (h : RR K σ H F r v l) (E : EnvR K env σ H F fp) (e : lookT env r = some t) : VR K H F v t := by
  unfold lookT at e
  obtain ⟨iv, e1, rfl⟩ := Option.map_eq_some_iff.mp e
  obtain ⟨l', h'⟩ := h.look E e1
  exact h'.vr
/-- a new tracked object -/
theorem EnvR.alloc (E : EnvR K env σ H F fp) {p : Addr} {o : HO} (hp : H p = none) : EnvR K env σ (upd H p o) F fp := by
  have ne : ∀ i a, a ∈ fp i → a ≠ p := fun i a ha e => E.here i a ha (e ▸ hp)
  refine ⟨fun i iv e => ?_, E.out, E.dis, E.free, fun b x e => ?_, E.len⟩
  · obtain ⟨v, h1, h2⟩ := E.slot i iv e
    exact ⟨v, h1, h2.keep (fun a ha => upd_ne (ne i a ha)) (fun _ _ h => h)⟩
  · have h := E.sub b x e
    rw [upd_ne (ne_of_none h hp)]
    exact h
theorem EnvR.allocF (E : EnvR K env σ H F fp) {p : Addr} {o : HO} (hp : H p = none) : EnvR K env σ (upd H p o) (upd F p o) fp := by
  have ne : ∀ i a, a ∈ fp i → a ≠ p := fun i a ha e => E.here i a ha (e ▸ hp)
  have hF : F p = none := E.freeF hp
  have sF : Same F (upd F p o) := fun b x e => by rw [upd_ne (ne_of_none e hF)]; exact e
  refine ⟨fun i iv e => ?_, E.out, E.dis, fun i a ha => by rw [upd_ne (ne i a ha)]; exact E.free i a ha, fun b x e => ?_, E.len⟩
  · obtain ⟨v, h1, h2⟩ := E.slot i iv e
    exact ⟨v, h1, h2.keep (fun a ha => upd_ne (ne i a ha)) sF⟩
  · by_cases hb : b = p
    · subst hb; rw [upd_same] at e ⊢; exact e
    · rw [upd_ne hb] at e ⊢; exact E.sub b x e
theorem Stp.alloc (s : Stp P0 H0 F0 P H F) {p : Addr} {o : HO} (hp : H p = none) : Stp P0 H0 F0 P (upd H p o) F :=
  s.trans ⟨fun a x e _ => by rw [upd_ne (ne_of_none e hp)]; exact e, fun _ _ h => h, fun _ h => .inl h, fun _ h => .inl h, fun _ h => .inl h, fun _ _ h => h⟩
theorem Stp.allocF (s : Stp P0 H0 F0 P H F) {p : Addr} {o : HO} (hp : H p = none) (hF : F p = none) : Stp P0 H0 F0 P (upd H p o) (upd F p o) :=
  s.trans ⟨fun a x e _ => by rw [upd_ne (ne_of_none e hp)]; exact e, fun b x e => by rw [upd_ne (ne_of_none e hF)]; exact e,
    fun a h => by
      by_cases ha : a = p
      · subst ha; exact .inr (.inr hp)
      · rw [upd_ne ha] at h; exact .inl h, fun _ h => .inl h, fun _ h => .inl h, fun _ _ h => h⟩
/-- a temporary is frozen -/
theorem esc_ok {r : R} {v : V} {l : List Addr} {t : T} (h : RR K σ H F r v l) (E : EnvR K env σ H F fp) (tm : Tmp H0 P0 F (fpOf env fp) l) (s : Stp P0 H0 F0 (fpOf env fp) H F) (e : esc env r = some t) :
    ∃ F', Same F F' ∧ Den K F' v t ∧ EnvR K env σ H F' fp ∧ Stp P0 H0 F0 (fpOf env fp) H F' ∧ ∀ a, F' a ≠ none → F a ≠ none ∨ a ∈ l := by
  have fz : ∀ (a : Addr) (o : HO), H a = some o → l = [a] → Same F (upd F a o) ∧ EnvR K env σ H (upd F a o) fp ∧ Stp P0 H0 F0 (fpOf env fp) H (upd F a o) ∧ ∀ b, upd F a o b ≠ none → F b ≠ none ∨ b ∈ l := by
    intro a o ha hl
    obtain ⟨t1, t2, t3⟩ := tm a (by rw [hl]; simp)
    have ne : ∀ i b, b ∈ fp i → b ≠ a := fun i b hb e => t2 ⟨i, e ▸ hb⟩
    have sF : Same F (upd F a o) := fun b x e => by rw [upd_ne (ne_of_none e t1)]; exact e
    refine ⟨sF, ⟨fun i iv e => ?_, E.out, E.dis, fun i b hb => by rw [upd_ne (ne i b hb)]; exact E.free i b hb, fun b x e => ?_, E.len⟩, ⟨s.keep, s.fz.trans sF, fun b h => ?_, s.own, s.all, s.lk⟩, fun b h => ?_⟩
    · obtain ⟨v, h1, h2⟩ := E.slot i iv e
      exact ⟨v, h1, h2.keep (fun _ _ => rfl) sF⟩
    · by_cases hb : b = a
      · subst hb; rw [upd_same] at e; cases e; exact ha
      · rw [upd_ne hb] at e; exact E.sub b x e
    · by_cases hb : b = a
      · subst hb; exact t3.elim (fun z => .inr (.inl z)) fun z => .inr (.inr z)
      · rw [upd_ne hb] at h; exact s.nfz b h
    · by_cases hb : b = a
      · subst hb; exact .inr (by rw [hl]; simp)
      · rw [upd_ne hb] at h; exact .inl h
  cases h with
  | val d => simp [esc] at e; subst e; exact ⟨F, fun _ _ h => h, d, E, s, fun a h => .inl h⟩
  | @loan _ i h1 =>
    simp only [esc] at e
    split at e
    · rename_i t' h2
      cases e
      obtain ⟨v', e1, r⟩ := E.slot i _ h2
      rw [h1] at e1
      cases e1
      generalize fp i = li at r
      cases r with
      | val d => exact ⟨F, fun _ _ h => h, d, E, s, fun a h => .inl h⟩
    · simp at e
  | new d =>
    simp only [esc, Option.some.injEq] at e
    subst e
    cases d with
    | @lst a vs ts ha da =>
      obtain ⟨s1, E1, t1, n1⟩ := fz a _ ha rfl
      exact ⟨_, s1, .lst upd_same (da.mono s1), E1, t1, n1⟩
    | @dic a vs ts ha da =>
      obtain ⟨s1, E1, t1, n1⟩ := fz a _ ha rfl
      exact ⟨_, s1, .dic (.inl upd_same) (da.mono s1), E1, t1, n1⟩
theorem escs_ok : ∀ {rs : List R} {vs : List V} {l : List Addr} {ts : List T} {F : Hp}, RRs K σ H F rs vs l → EnvR K env σ H F fp → Tmp H0 P0 F (fpOf env fp) l → Stp P0 H0 F0 (fpOf env fp) H F → escs env rs = some ts →
    ∃ F', Same F F' ∧ DenAll K F' vs ts ∧ EnvR K env σ H F' fp ∧ Stp P0 H0 F0 (fpOf env fp) H F'
  | _, _, _, _, F, .nil, E, tm, s, e => by simp [escs] at e; subst e; exact ⟨F, fun _ _ h => h, .nil, E, s⟩
  | _, _, _, ts, F, .cons (r := r) (rs := rs) (l := l) (ls := ls) h hs d, E, tm, s, e => by
    simp only [escs] at e
    cases e1 : esc env r with
    | none => rw [e1] at e; simp at e
    | some t =>
      cases e2 : escs env rs with
      | none => rw [e1, e2] at e; simp at e
      | some ts' =>
        rw [e1, e2] at e
        simp at e
        subst e
        obtain ⟨F1, s1, d1, E1, t1, n1⟩ := esc_ok h E (fun a ha => tm a (List.mem_append_left _ ha)) s e1
        have hs1 : ∀ {rs : List R} {vs : List V} {l : List Addr}, RRs K σ H F rs vs l → RRs K σ H F1 rs vs l := by
          intro rs vs l h
          induction h with
          | nil => exact .nil
          | cons h _ d ih =>
            refine .cons ?_ ih d
            cases h with
            | val q => exact .val (q.mono s1)
            | new q => exact .new (q.keep (fun _ _ => rfl) s1)
            | loan q => exact .loan q
        obtain ⟨F2, s2, d2, E2, t2⟩ := escs_ok (hs1 hs) E1 (fun a ha => by
          obtain ⟨g1, g2, g3⟩ := tm a (List.mem_append_right _ ha)
          refine ⟨?_, g2, g3⟩
          cases q : F1 a with
          | none => rfl
          | some o =>
            rcases n1 a (by rw [q]; simp) with z | z
            · exact absurd g1 z
            · exact absurd ha (d a z)) t1 e2
        exact ⟨F2, s1.trans s2, .cons (d1.mono s2) d2, E2, t2⟩
/-- the reading of a piece, then what follows -/
theorem tE_intro {m : Env → Out R} {f : R → Env → Out β} {Q0 : β → Env → Hp → Hp → (Nat → List Addr) → Prop} {Q : VK} (E : EnvR K env σ H F fp) (s : Stp P0 H0 F0 (fpOf env fp) H F) (h : ((m env).bind f).asks K W σ H0 F0 P0 Q0)
    (k : ∀ r env2 H2 F2 fp2 v l, EnvR K env2 σ H2 F2 fp2 → Stp (fpOf env fp) H F (fpOf env2 fp2) H2 F2 → RR K σ H2 F2 r v l → Tmp H (fpOf env fp) F2 (fpOf env2 fp2) l → (f r env2).asks K W σ H0 F0 P0 Q0 → Q v H2) : tE K W m σ H Q := by
  refine ⟨env, F, fp, E, ?_⟩
  cases e : m env with
  | stuck => rw [e] at h; exact h
  | exc x env' => rw [e] at h; exact fun cls d H' F' fp' E' t x => h cls d H' F' fp' E' (s.trans t) x
  | ok r env2 => rw [e] at h; exact fun H' F' fp' E' t v l rr tm => k r env2 H' F' fp' v l E' t rr tm h
theorem tB_intro {m : Env → Out Bool} {f : Bool → Env → Out β} {Q0 : β → Env → Hp → Hp → (Nat → List Addr) → Prop} {Q : Bool → Hp → Prop} (E : EnvR K env σ H F fp) (s : Stp P0 H0 F0 (fpOf env fp) H F) (h : ((m env).bind f).asks K W σ H0 F0 P0 Q0)
    (k : ∀ r env2 H2 F2 fp2, EnvR K env2 σ H2 F2 fp2 → Stp (fpOf env fp) H F (fpOf env2 fp2) H2 F2 → (f r env2).asks K W σ H0 F0 P0 Q0 → Q r H2) : G.tB K W m σ H Q := by
  refine ⟨env, F, fp, E, ?_⟩
  cases e : m env with
  | stuck => rw [e] at h; exact h
  | exc x env' => rw [e] at h; exact fun cls d H' F' fp' E' t x => h cls d H' F' fp' E' (s.trans t) x
  | ok r env2 => rw [e] at h; exact fun H' F' fp' E' t => k r env2 H' F' fp' E' t h
theorem tA_intro {m : Env → Out (List R)} {f : List R → Env → Out β} {Q0 : β → Env → Hp → Hp → (Nat → List Addr) → Prop} {Q : List V → Hp → Prop} (E : EnvR K env σ H F fp) (s : Stp P0 H0 F0 (fpOf env fp) H F) (h : ((m env).bind f).asks K W σ H0 F0 P0 Q0)
    (k : ∀ r env2 H2 F2 fp2 v l, EnvR K env2 σ H2 F2 fp2 → Stp (fpOf env fp) H F (fpOf env2 fp2) H2 F2 → RRs K σ H2 F2 r v l → Tmp H (fpOf env fp) F2 (fpOf env2 fp2) l → (f r env2).asks K W σ H0 F0 P0 Q0 → Q v H2) : tA K W m σ H Q := by
  refine ⟨env, F, fp, E, ?_⟩
  cases e : m env with
  | stuck => rw [e] at h; exact h
  | exc x env' => rw [e] at h; exact fun cls d H' F' fp' E' t x => h cls d H' F' fp' E' (s.trans t) x
  | ok r env2 => rw [e] at h; exact fun H' F' fp' E' t v l rr tm => k r env2 H' F' fp' v l E' t rr tm h
theorem ofO_asks {o : Option α} {Q : α → Env → Hp → Hp → (Nat → List Addr) → Prop} (h : (ofO o env).asks K W σ H0 F0 P0 Q) : ∃ a, o = some a ∧ (Out.ok a env).asks K W σ H0 F0 P0 Q := by
  cases o with
  | none => exact h.elim
  | some a => exact ⟨a, rfl, h⟩
abbrev Ask (K : PySem.W.Frag) (σ : L2.St) (H0 : Hp) (P0 : Fp) (Q : VK) : R → Env → Hp → Hp → (Nat → List Addr) → Prop := fun r env' H' F' fp' => ∀ v l, RR K σ H' F' r v l → Tmp H0 P0 F' (fpOf env' fp') l → Q v H'
/-- the end of a piece that hands back data -/
theorem rv_end {r : Rv} {Q : VK} (E : EnvR K env σ H F fp) (s : Stp P0 H0 F0 (fpOf env fp) H F) (q : (Out.ok (rvR r) env).asks K W σ H0 F0 P0 (Ask K σ H0 P0 Q)) : RvAt K H F Q r := by
  cases r with
  | val t => exact fun v d => q H F fp E s v [] (.val d) .nil
  | lst xs =>
    intro p vs hp d
    refine q _ _ fp (E.alloc hp) (s.alloc hp) (.ref p) [p] (.new (.lst upd_same d)) fun a ha => ?_
    simp at ha
    subst ha
    exact ⟨E.freeF hp, E.notAll hp, s.back hp⟩
  | tup xs =>
    refine ⟨fun p vs hp d => ?_, fun v d => q H F fp E s v [] (.val d) .nil⟩
    have hF := E.freeF hp
    have sF : Same F (upd F p (.tup vs)) := fun b x e => by rw [upd_ne (ne_of_none e hF)]; exact e
    exact q _ _ fp (E.allocF hp) (s.allocF hp hF) (.ref p) [] (.val (.tup (.inl (.inl upd_same)) (d.mono sF))) .nil
end
end G
namespace G
open PySem PySem.Spec PyProof.Rows L2

/-! # the rules of expressions -/
section
variable {X : Cx} {W : WX} {a b c : Expr} {ma mb mc : Env → Out R} {pos : Pos}

theorem se_var {i : Nat} {x : Str} (h : PE X (.Name x pos) (tVar i)) : PE X (.Name x pos) (tE X.K W fun env => match env[i]? with
    | some (some (.val t)) => .ok (.val t) env
    | some (some _) => .ok (.loan i) env
    | _ => .stuck) := by
  refine pe_imp h fun σ H Q ⟨env, F, fp, E, q⟩ => ?_
  cases e : env[i]? with
  | none => simp only [e] at q; exact q.elim
  | some iv =>
    cases iv with
    | none => simp only [e] at q; exact q.elim
    | some iv =>
      obtain ⟨v, h1, h2⟩ := E.slot i iv e
      refine ⟨v, h1, ?_⟩
      cases iv with
      | val t =>
        simp only [e] at q
        generalize fp i = li at h2
        cases h2 with
        | val d => exact q H F fp E Stp.refl v [] (.val d) .nil
      | own t => simp only [e] at q; exact q H F fp E Stp.refl v [] (.loan h1) .nil
      | lck t => simp only [e] at q; exact q H F fp E Stp.refl v [] (.loan h1) .nil
/-- a slot set in an environment -/
theorem get_set {env : Env} {i j : Nat} {x : Option Iv} {iv : Iv} (h : (env.set i x)[j]? = some (some iv)) : (i = j ∧ x = some iv ∧ i < env.length) ∨ (i ≠ j ∧ env[j]? = some (some iv)) := by
  rw [List.getElem?_set] at h
  split at h
  · split at h
    · rename_i h1 h2; cases h; exact .inl ⟨h1, rfl, h2⟩
    · cases h
  · rename_i h1; exact .inr ⟨h1, h⟩
theorem get_set_none {env : Env} {i j : Nat} {x : Option Iv} (h : ∀ iv, (env.set i x)[j]? ≠ some (some iv)) (hne : i ≠ j) : ∀ iv, env[j]? ≠ some (some iv) := fun iv e => h iv (by rw [List.getElem?_set_ne hne]; exact e)
theorem se_mov {i : Nat} {x : Str} (h : PE X (.Name x pos) (tVar i)) : PE X (.Name x pos) (tE X.K W fun env => match env[i]? with
    | some (some (.val t)) => .ok (.val t) env
    | some (some (.own o)) => .ok (.val (frz o)) (env.set i (some (.val (frz o))))
    | _ => .stuck) := by
  refine pe_imp h fun σ H Q ⟨env, F, fp, E, q⟩ => ?_
  cases e : env[i]? with
  | none => simp only [e] at q; exact q.elim
  | some iv =>
    cases iv with
    | none => simp only [e] at q; exact q.elim
    | some iv =>
      obtain ⟨v, h1, h2⟩ := E.slot i iv e
      refine ⟨v, h1, ?_⟩
      cases iv with
      | val t =>
        simp only [e] at q
        generalize fp i = li at h2
        cases h2 with
        | val d => exact q H F fp E Stp.refl v [] (.val d) .nil
      | lck t => simp only [e] at q; exact q.elim
      | own o =>
        simp only [e] at q
        have hi : i < env.length := (List.getElem?_eq_some_iff.mp e).1
        have key : ∀ (a : Addr) (ho : HO), fp i = [a] → H a = some ho → (∀ F', Same F F' → F' a = some ho → Den X.K F' v (frz o)) → Q v H := by
          intro a ho hl ha hd
          have hF : F a = none := E.free i a (by rw [hl]; simp)
          have sF : Same F (upd F a ho) := fun b x e => by rw [upd_ne (ne_of_none e hF)]; exact e
          have ne : ∀ j b, j ≠ i → b ∈ fp j → b ≠ a := fun j b hj hb z => hj (E.dis j i b hb (by rw [hl, z]; simp))
          refine q H (upd F a ho) (fun j => if j = i then [] else fp j) ⟨fun j iv ej => ?_, fun j hj => ?_, fun j k b hb hb' => ?_, fun j b hb => ?_, fun b x eb => ?_, by rw [List.length_set]; exact E.len⟩
            ⟨fun b x eb hn => eb, sF, fun b hb => ?_, fun b ⟨j, o', ej, hb⟩ => ?_, fun b ⟨j, hb⟩ => ?_, fun j b ⟨o', ej, hb⟩ => ?_⟩ v [] (.val (hd _ sF upd_same)) .nil
          · rcases get_set ej with ⟨rfl, h3, _⟩ | ⟨h3, h4⟩
            · cases h3
              refine ⟨v, h1, ?_⟩
              rw [if_pos rfl]
              exact .val (hd _ sF upd_same)
            · obtain ⟨w, g1, g2⟩ := E.slot j iv h4
              refine ⟨w, g1, ?_⟩
              rw [if_neg (Ne.symm h3)]
              exact g2.keep (fun _ _ => rfl) sF
          · by_cases hji : j = i
            · subst hji; simp
            · show (if j = i then [] else fp j) = []
              rw [if_neg hji]
              exact E.out j (get_set_none hj (Ne.symm hji))
          · have hb : b ∈ (if j = i then [] else fp j) := hb
            have hb' : b ∈ (if k = i then [] else fp k) := hb'
            split at hb
            · simp at hb
            · split at hb'
              · simp at hb'
              · exact E.dis j k b hb hb'
          · have hb : b ∈ (if j = i then [] else fp j) := hb
            split at hb
            · simp at hb
            · rename_i hji
              rw [upd_ne (ne j b hji hb)]
              exact E.free j b hb
          · by_cases hb : b = a
            · subst hb; rw [upd_same] at eb; cases eb; exact ha
            · rw [upd_ne hb] at eb; exact E.sub b x eb
          · by_cases hba : b = a
            · subst hba; exact .inr (.inl ⟨i, o, e, by rw [hl]; simp⟩)
            · rw [upd_ne hba] at hb; exact .inl hb
          · have hb : b ∈ (if j = i then [] else fp j) := hb
            split at hb
            · simp at hb
            · rename_i hji
              rcases get_set ej with ⟨h3, _⟩ | ⟨_, h4⟩
              · exact absurd h3.symm hji
              · exact .inl ⟨j, o', h4, hb⟩
          · have hb : b ∈ (if j = i then [] else fp j) := hb
            split at hb
            · simp at hb
            · exact .inl ⟨j, hb⟩
          · have hb : b ∈ (if j = i then [] else fp j) := hb
            split at hb
            · simp at hb
            · rename_i hji
              rcases get_set ej with ⟨h3, _⟩ | ⟨_, h4⟩
              · exact absurd h3.symm hji
              · exact ⟨o', h4, hb⟩
        generalize hl : fp i = li at h2
        cases h2 with
        | own h2 =>
          cases h2 with
          | @lst a vs ts ha da => exact key a _ hl ha fun F' s e => .lst e (da.mono s)
          | @dic a vs ts ha da => exact key a _ hl ha fun F' s e => .dic (.inl e) (da.mono s)
theorem se_con {v : V} {t : T} (h : PE X a (tC v)) (hd : ∀ F, Den X.K F v t) : PE X a (tE X.K W fun env => .ok (.val t) env) :=
  pe_imp h fun σ H Q ⟨env, F, fp, E, q⟩ => q H F fp E Stp.refl v [] (.val (hd F)) .nil
theorem se_bin {op : Operator} (ha : PE X a (tE X.K W ma)) (hb : PE X b (tE X.K W mb)) : PE X (.BinOp a op b pos)
    (tE X.K W fun env => (ma env).bind fun ra e1 => (mb e1).bind fun rb e2 => ofO ((lookT e2 ra).bind fun x => (lookT e2 rb).bind fun y => (binR op x y).map rvR) e2) := by
  refine pe_imp (pe_op (op_binR op) ha hb) fun σ H Q ⟨env, F, fp, E, q⟩ => ?_
  refine tE_intro E Stp.refl q fun ra e1 H1 F1 fp1 v l E1 s1 ra1 t1 q1 => ?_
  refine tE_intro E1 s1 q1 fun rb e2 H2 F2 fp2 w l2 E2 s2 rb2 t2 q2 => ?_
  obtain ⟨r, e, q3⟩ := ofO_asks q2
  simp only [Option.bind_eq_some_iff, Option.map_eq_some_iff] at e
  obtain ⟨x, ex, y, ey, rv, er, rfl⟩ := e
  exact ⟨F2, x, y, rv, E2.sub, (ra1.step t1 s2).vr E2 ex, rb2.vr E2 ey, er, rv_end E2 (s1.trans s2) q3⟩
theorem se_neg (ha : PE X a (tE X.K W ma)) : PE X (.UnaryOp .USub a pos)
    (tE X.K W fun env => (ma env).bind fun ra e1 => match ra with | .val (.int i) => .ok (.val (.int (-i))) e1 | _ => .stuck) := by
  refine pe_imp (pe_un un_neg ha) fun σ H Q ⟨env, F, fp, E, q⟩ => ?_
  refine tE_intro E Stp.refl q fun ra e1 H1 F1 fp1 v l E1 s1 ra1 t1 q1 => ?_
  cases ra1 with
  | val d =>
    cases d with
    | int i => exact ⟨i, rfl, q1 H1 F1 fp1 E1 s1 _ [] (.val (.int _)) .nil⟩
    | _ => exact q1.elim
  | _ => exact q1.elim
theorem se_not (ha : PE X a (tE X.K W ma)) : PE X (.UnaryOp .Not a pos)
    (tE X.K W fun env => (ma env).bind fun ra e1 => match ra with | .val (.bl i) => .ok (.val (.bl (!i))) e1 | _ => .stuck) := by
  refine pe_imp (pe_not ha) fun σ H Q ⟨env, F, fp, E, q⟩ => ?_
  refine tE_intro E Stp.refl q fun ra e1 H1 F1 fp1 v l E1 s1 ra1 t1 q1 => ?_
  cases ra1 with
  | val d =>
    cases d with
    | bl i => exact ⟨i, rfl, q1 H1 F1 fp1 E1 s1 _ [] (.val (.bl _)) .nil⟩
    | _ => exact q1.elim
  | _ => exact q1.elim
theorem se_and {rest : List Expr} (ha : PE X a (tE X.K W ma)) (hb : PE X (.BoolOp .And (b :: rest) pos) (tE X.K W mb)) : PE X (.BoolOp .And (a :: b :: rest) pos)
    (tE X.K W fun env => (ma env).bind fun ra e1 => match ra with | .val (.bl true) => mb e1 | .val (.bl false) => .ok (.val (.bl false)) e1 | _ => .stuck) := by
  refine pe_imp (pe_and ha hb) fun σ H Q ⟨env, F, fp, E, q⟩ => ?_
  refine tE_intro E Stp.refl q fun ra e1 H1 F1 fp1 v l E1 s1 ra1 t1 q1 => ?_
  cases ra1 with
  | val d =>
    cases d with
    | bl i =>
      refine ⟨i, rfl, ?_⟩
      cases i with
      | true =>
        rw [if_pos rfl]
        refine ⟨e1, F1, fp1, E1, Out.asks_mono s1 q1 fun r env' H' F' fp' E' s' q' v l rr tm => q' v l rr (tm.base s1)⟩
      | false =>
        rw [if_neg Bool.false_ne_true]
        exact q1 H1 F1 fp1 E1 s1 _ [] (.val (.bl _)) .nil
    | _ => exact q1.elim
  | _ => exact q1.elim
theorem se_or {rest : List Expr} (ha : PE X a (tE X.K W ma)) (hb : PE X (.BoolOp .Or (b :: rest) pos) (tE X.K W mb)) : PE X (.BoolOp .Or (a :: b :: rest) pos)
    (tE X.K W fun env => (ma env).bind fun ra e1 => match ra with | .val (.bl false) => mb e1 | .val (.bl true) => .ok (.val (.bl true)) e1 | _ => .stuck) := by
  refine pe_imp (pe_or ha hb) fun σ H Q ⟨env, F, fp, E, q⟩ => ?_
  refine tE_intro E Stp.refl q fun ra e1 H1 F1 fp1 v l E1 s1 ra1 t1 q1 => ?_
  cases ra1 with
  | val d =>
    cases d with
    | bl i =>
      refine ⟨i, rfl, ?_⟩
      cases i with
      | false =>
        rw [if_neg Bool.false_ne_true]
        refine ⟨e1, F1, fp1, E1, Out.asks_mono s1 q1 fun r env' H' F' fp' E' s' q' v l rr tm => q' v l rr (tm.base s1)⟩
      | true =>
        rw [if_pos rfl]
        exact q1 H1 F1 fp1 E1 s1 _ [] (.val (.bl _)) .nil
    | _ => exact q1.elim
  | _ => exact q1.elim
def mCmp (op : CmpOp) (ma mb : Env → Out R) : Env → Out R := fun env => (ma env).bind fun ra e1 => (mb e1).bind fun rb e2 => ofO ((lookT e2 ra).bind fun x => (lookT e2 rb).bind fun y => (cmpR op x y).map fun b => R.val (.bl b)) e2
theorem cmp_imp {op : CmpOp} {σ : L2.St} {H : Hp} {Q : VK} (h : tE X.K W (mCmp op ma mb) σ H Q) : tOp (rCmp X.K op) (tE X.K W ma) (tE X.K W mb) σ H Q := by
  obtain ⟨env, F, fp, E, q⟩ := h
  refine tE_intro E Stp.refl q fun ra e1 H1 F1 fp1 v l E1 s1 ra1 t1 q1 => ?_
  refine tE_intro E1 s1 q1 fun rb e2 H2 F2 fp2 w l2 E2 s2 rb2 t2 q2 => ?_
  obtain ⟨r, e, q3⟩ := ofO_asks q2
  simp only [Option.bind_eq_some_iff, Option.map_eq_some_iff] at e
  obtain ⟨x, ex, y, ey, k, er, rfl⟩ := e
  exact ⟨x, y, k, ((ra1.step t1 s2).vr E2 ex).den E2.sub, (rb2.vr E2 ey).den E2.sub, er, q3 H2 F2 fp2 E2 (s1.trans s2) _ [] (.val (.bl _)) .nil⟩
theorem se_cmp (hu : X.A.units + 65 < cLine) {op : CmpOp} (ha : PE X a (tE X.K W ma)) (hb : PE X b (tE X.K W mb)) (hm : behindInMarks op b = false) : PE X (.Compare a [op] [b] pos) (tE X.K W (mCmp op ma mb)) :=
  pe_imp (pe_cmpR (op_cmpR hu op) ha hb hm) fun _ _ _ => cmp_imp
def mChain (op op' : CmpOp) (ma mb mc : Env → Out R) : Env → Out R := fun env => (ma env).bind fun ra e1 => (mb e1).bind fun rb e2 =>
      match ((lookT e2 ra).bind fun x => (lookT e2 rb).bind fun y => cmpR op x y) with
      | some true => (mc e2).bind fun rc e3 => ofO ((lookT e3 rb).bind fun x => (lookT e3 rc).bind fun y => (cmpR op' x y).map fun b => R.val (.bl b)) e3
      | some false => .ok (.val (.bl false)) e2
      | none => .stuck
theorem chain_imp {op op' : CmpOp} {σ : L2.St} {H : Hp} {Q : VK} (h : tE X.K W (mChain op op' ma mb mc) σ H Q) : tChain (rCmp X.K op) (rCmp X.K op') (tE X.K W ma) (tE X.K W mb) (tE X.K W mc) σ H Q := by
  obtain ⟨env, F, fp, E, q⟩ := h
  refine tE_intro E Stp.refl q fun ra e1 H1 F1 fp1 v l E1 s1 ra1 t1 q1 => ?_
  refine tE_intro E1 s1 q1 fun rb e2 H2 F2 fp2 w l2 E2 s2 rb2 t2 q2 => ?_
  have ra2 := ra1.step t1 s2
  cases ek : ((lookT e2 ra).bind fun x => (lookT e2 rb).bind fun y => cmpR op x y) with
  | none => simp only [ek] at q2; exact q2.elim
  | some k =>
    have ek' := ek
    simp only [Option.bind_eq_some_iff] at ek'
    obtain ⟨x, ex, y, ey, er⟩ := ek'
    refine ⟨x, y, k, (ra2.vr E2 ex).den E2.sub, (rb2.vr E2 ey).den E2.sub, er, k, rfl, ?_⟩
    cases k with
    | false =>
      rw [if_neg Bool.false_ne_true]
      simp only [ek] at q2
      exact q2 H2 F2 fp2 E2 (s1.trans s2) _ [] (.val (.bl _)) .nil
    | true =>
      rw [if_pos rfl]
      simp only [ek] at q2
      refine tE_intro E2 (s1.trans s2) q2 fun rc e3 H3 F3 fp3 u l3 E3 s3 rc3 t3 q3 => ?_
      obtain ⟨r, e, q4⟩ := ofO_asks q3
      simp only [Option.bind_eq_some_iff, Option.map_eq_some_iff] at e
      obtain ⟨x', ex', y', ey', k', er', rfl⟩ := e
      exact ⟨x', y', k', ((rb2.step t2 s3).vr E3 ex').den E3.sub, (rc3.vr E3 ey').den E3.sub, er', q4 H3 F3 fp3 E3 ((s1.trans s2).trans s3) _ [] (.val (.bl _)) .nil⟩
theorem marks2 {op op' : CmpOp} (hm : behindInMarks op' c = false) : lastMarks [op, op'] [b, c] = false := hm
theorem se_chain (hu : X.A.units + 65 < cLine) {op op' : CmpOp} (ha : PE X a (tE X.K W ma)) (hb : PE X b (tE X.K W mb)) (hc : PE X c (tE X.K W mc)) (hm : behindInMarks op' c = false) :
    PE X (.Compare a [op, op'] [b, c] pos) (tE X.K W (mChain op op' ma mb mc)) :=
  pe_imp (pe_chain (op_cmpR hu op) (op_cmpR hu op') ha hb hc (marks2 hm)) fun _ _ _ => chain_imp
theorem se_ifx {k : Env → Out Bool} (hc : PT X c (G.tB X.K W k)) (ha : PE X a (tE X.K W ma)) (hb : PE X b (tE X.K W mb)) : PE X (.IfExp c a b pos)
    (tE X.K W fun env => (k env).bind fun k e1 => if k then ma e1 else mb e1) := by
  refine pe_imp (pe_ifExp hc ha hb) fun σ H Q ⟨env, F, fp, E, q⟩ => ?_
  refine tB_intro E Stp.refl q fun k e1 H1 F1 fp1 E1 s1 q1 => ?_
  cases k with
  | true =>
    rw [if_pos rfl] at q1 ⊢
    exact ⟨e1, F1, fp1, E1, Out.asks_mono s1 q1 fun r env' H' F' fp' E' s' q' v l rr tm => q' v l rr (tm.base s1)⟩
  | false =>
    rw [if_neg Bool.false_ne_true] at q1 ⊢
    exact ⟨e1, F1, fp1, E1, Out.asks_mono s1 q1 fun r env' H' F' fp' E' s' q' v l rr tm => q' v l rr (tm.base s1)⟩
theorem sa_nil : PA X [] (tA X.K W fun env => .ok [] env) := pa_imp pa_nil fun σ H Q ⟨env, F, fp, E, q⟩ => q H F fp E Stp.refl [] [] .nil .nil
theorem sa_cons {es : List Expr} {ms : Env → Out (List R)} (ha : PE X a (tE X.K W ma)) (hs : PA X es (tA X.K W ms)) (hst : ∀ e p, a ≠ .Starred e p) : PA X (a :: es)
    (tA X.K W fun env => (ma env).bind fun r e1 => (ms e1).bind fun rs e2 => .ok (r :: rs) e2) := by
  refine pa_imp (pa_cons ha hs (by cases a <;> first | rfl | exact absurd rfl (hst _ _))) fun σ H Q ⟨env, F, fp, E, q⟩ => ?_
  refine tE_intro E Stp.refl q fun ra e1 H1 F1 fp1 v l E1 s1 ra1 t1 q1 => ?_
  refine tA_intro E1 s1 q1 fun rs e2 H2 F2 fp2 vs ls E2 s2 rs2 t2 q2 => ?_
  refine q2 H2 F2 fp2 E2 (s1.trans s2) (v :: vs) (l ++ ls) (.cons (ra1.step t1 s2) rs2 fun x hx hx' => ?_) fun x hx => ?_
  · rcases (t2 x hx').2.2 with z | z
    · exact (t1 x hx).2.1 ((fpOf e1 fp1).sub x z)
    · exact ra1.here x hx z
  · rcases List.mem_append.mp hx with hx | hx
    · exact (t1.step s2 ra1.here) x hx
    · exact (t2.base s1) x hx
theorem DenAll.len {K : PySem.W.Frag} {F : Hp} {vs : List V} {ts : List T} (d : DenAll K F vs ts) (h : ts.length ≤ sizeLine) : vs.length ≤ sizeLine := by rw [d.length]; exact h
theorem se_tup {es : List Expr} {k : Nat} {ms : Env → Out (List R)} (hs : PA X es (tA X.K W ms)) : PE X (.Tuple es k pos)
    (tE X.K W fun env => (ms env).bind fun rs e1 => ofO ((escs e1 rs).bind fun ts => if ts.length ≤ sizeLine then some (R.val (.tup ts)) else none) e1) := by
  refine pe_imp (pe_tup hs) fun σ H Q ⟨env, F, fp, E, q⟩ => ?_
  refine tA_intro E Stp.refl q fun rs e1 H1 F1 fp1 vs l E1 s1 rs1 t1 q1 => ?_
  obtain ⟨r, e, q2⟩ := ofO_asks q1
  simp only [Option.bind_eq_some_iff] at e
  obtain ⟨ts, e1', e2⟩ := e
  split at e2
  · rename_i hz
    cases e2
    obtain ⟨F2, sF, d, E2, s2⟩ := escs_ok rs1 E1 t1 s1 e1'
    refine ⟨d.len hz, fun p hp => ?_⟩
    have hF := E2.freeF hp
    have sF2 : Same F2 (upd F2 p (.tup vs)) := fun b x e => by rw [upd_ne (ne_of_none e hF)]; exact e
    exact q2 _ _ fp1 (E2.allocF hp) (s2.allocF hp hF) _ [] (.val (.tup (.inl (.inl upd_same)) (d.mono sF2))) .nil
  · cases e2
theorem se_lst {es : List Expr} {ms : Env → Out (List R)} (hs : PA X es (tA X.K W ms)) : PE X (.List es pos)
    (tE X.K W fun env => (ms env).bind fun rs e1 => ofO ((escs e1 rs).bind fun ts => if ts.length ≤ sizeLine then some (R.new (.lst ts)) else none) e1) := by
  refine pe_imp (pe_lst hs) fun σ H Q ⟨env, F, fp, E, q⟩ => ?_
  refine tA_intro E Stp.refl q fun rs e1 H1 F1 fp1 vs l E1 s1 rs1 t1 q1 => ?_
  obtain ⟨r, e, q2⟩ := ofO_asks q1
  simp only [Option.bind_eq_some_iff] at e
  obtain ⟨ts, e1', e2⟩ := e
  split at e2
  · rename_i hz
    cases e2
    obtain ⟨F2, sF, d, E2, s2⟩ := escs_ok rs1 E1 t1 s1 e1'
    refine ⟨d.len hz, fun p hp => ?_⟩
    refine q2 _ _ fp1 (E2.alloc hp) (s2.alloc hp) _ [p] (.new (.lst upd_same d)) fun a ha => ?_
    simp at ha
    subst ha
    exact ⟨E2.freeF hp, E2.notAll hp, s2.back hp⟩
  · cases e2
theorem se_dnew : PE X (.Dict [] [] pos) (tE X.K W fun env => .ok (.new (.dic [])) env) := by
  refine pe_imp pe_dnewK fun σ H Q ⟨env, F, fp, E, q⟩ => fun p hp => ?_
  refine q _ _ fp (E.alloc hp) (Stp.refl.alloc hp) _ [p] (.new (.dic upd_same .nil)) fun a ha => ?_
  simp at ha
  subst ha
  exact ⟨E.freeF hp, E.notAll hp, .inr hp⟩
theorem se_ix (hu : X.A.units + 1 < cLine) (ha : PE X a (tE X.K W ma)) (hb : PE X b (tE X.K W mb)) (hs : PlainIx b) : PE X (.Subscript a b pos)
    (tE X.K W fun env => (ma env).bind fun ra e1 => (mb e1).bind fun ri e2 => ofO ((lookT e2 ra).bind fun x => (lookT e2 ri).bind fun y => (ixR x y).map R.val) e2) := by
  refine pe_imp (pe_ix (ix_R hu) ha hb hs) fun σ H Q ⟨env, F, fp, E, q⟩ => ?_
  refine tE_intro E Stp.refl q fun ra e1 H1 F1 fp1 v l E1 s1 ra1 t1 q1 => ?_
  refine tE_intro E1 s1 q1 fun rb e2 H2 F2 fp2 w l2 E2 s2 rb2 t2 q2 => ?_
  obtain ⟨r, e, q3⟩ := ofO_asks q2
  simp only [Option.bind_eq_some_iff, Option.map_eq_some_iff] at e
  obtain ⟨x, ex, y, ey, t, er, rfl⟩ := e
  exact ⟨F2, x, y, t, E2.sub, (ra1.step t1 s2).vr E2 ex, (rb2.vr E2 ey).den E2.sub, er, fun u d => q3 H2 F2 fp2 E2 (s1.trans s2) u [] (.val d) .nil⟩
end
end G
namespace G
open PySem PySem.Spec PyProof.Rows L2

/-! # rows of values that are read -/
inductive VRs (K : PySem.W.Frag) (H F : Hp) : List V → List T → Prop
  | nil : VRs K H F [] []
  | cons {v : V} {vs : List V} {t : T} {ts : List T} : VR K H F v t → VRs K H F vs ts → VRs K H F (v :: vs) (t :: ts)
section
variable {K : PySem.W.Frag} {W : WX} {σ : L2.St} {env : Env} {H F : Hp} {fp : Nat → List Addr}
theorem RRs.vrs : ∀ {rs : List R} {vs : List V} {l : List Addr} {ts : List T}, RRs K σ H F rs vs l → EnvR K env σ H F fp → looks env rs = some ts → VRs K H F vs ts
  | _, _, _, _, .nil, E, e => by simp [looks] at e; subst e; exact .nil
  | _, _, _, ts, .cons (r := r) (rs := rs) h hs d, E, e => by
    simp only [looks] at e
    cases e1 : lookT env r with
    | none => rw [e1] at e; simp at e
    | some t =>
      cases e2 : looks env rs with
      | none => rw [e1, e2] at e; simp at e
      | some ts' =>
        rw [e1, e2] at e
        simp at e
        subst e
        exact .cons (h.vr E e1) (RRs.vrs hs E e2)
theorem VR.seqL {v : V} {t : T} {xs : List T} (s : Same F H) (h : VR K H F v t) (e : seqL t = some xs) : ∃ a vs, v = .ref a ∧ SqL K H a vs ∧ DenAll K F vs xs := by
  cases t <;> simp [G.seqL] at e
  · subst e; obtain ⟨a, vs, e, h, d⟩ := h.lstF s; exact ⟨a, vs, e, .inl (.inl h), d⟩
  · subst e; exact h.rlstF s
theorem VR.seqA {v : V} {t : T} {xs : List T} (s : Same F H) (h : VR K H F v t) (e : seqA t = some xs) : ∃ a vs, v = .ref a ∧ (SqL K H a vs ∨ SqT K H a vs) ∧ DenAll K F vs xs := by
  cases t <;> simp [G.seqA] at e
  · subst e; obtain ⟨a, vs, e, h, d⟩ := h.tupF.tup'; exact ⟨a, vs, e, .inr (same_t s h), d⟩
  · subst e; obtain ⟨a, vs, e, h, d⟩ := h.lstF s; exact ⟨a, vs, e, .inl (.inl (.inl h)), d⟩
  · subst e; obtain ⟨a, vs, e, h, d⟩ := h.rlstF s; exact ⟨a, vs, e, .inl h, d⟩
theorem intsT_den : ∀ {vs : List V} {ts : List T} {ns : List Int}, DenAll K F vs ts → intsT ts = some ns → vs = ns.map V.int
  | _, _, _, .nil, e => by simp [intsT] at e; subst e; rfl
  | _, _, _, .cons (t := t) d ds, e => by
    cases t <;> simp [intsT] at e
    obtain ⟨ns, e1, rfl⟩ := e
    rw [d.is_int, intsT_den ds e1]; rfl
theorem strsT_den : ∀ {vs : List V} {ts : List T} {ns : List Str}, DenAll K F vs ts → strsT ts = some ns → vs = ns.map V.str
  | _, _, _, .nil, e => by simp [strsT] at e; subst e; rfl
  | _, _, _, .cons (t := t) d ds, e => by
    cases t <;> simp [strsT] at e
    obtain ⟨ns, e1, rfl⟩ := e
    rw [d.is_str, strsT_den ds e1]; rfl
theorem blsT_den : ∀ {vs : List V} {ts : List T} {ns : List Bool}, DenAll K F vs ts → blsT ts = some ns → vs = ns.map V.bl
  | _, _, _, .nil, e => by simp [blsT] at e; subst e; rfl
  | _, _, _, .cons (t := t) d ds, e => by
    cases t <;> simp [blsT] at e
    obtain ⟨ns, e1, rfl⟩ := e
    rw [d.is_bl, blsT_den ds e1]; rfl
end

/-! # sorted rows -/
theorem insS_perm (x : Str) : ∀ l : List Str, (insS x l).Perm (x :: l)
  | [] => .refl _
  | y :: ys => by
    unfold insS
    split
    · exact .refl _
    · exact (List.Perm.cons y (insS_perm x ys)).trans (List.Perm.swap x y ys)
theorem sortS_perm : ∀ l : List Str, (sortS l).Perm l
  | [] => .refl _
  | x :: l => (insS_perm x _).trans ((sortS_perm l).cons x)
theorem insI_perm (x : Int) : ∀ l : List Int, (insI x l).Perm (x :: l)
  | [] => .refl _
  | y :: ys => by
    unfold insI
    split
    · exact .refl _
    · exact (List.Perm.cons y (insI_perm x ys)).trans (List.Perm.swap x y ys)
theorem sortI_perm : ∀ l : List Int, (sortI l).Perm l
  | [] => .refl _
  | x :: l => (insI_perm x _).trans ((sortI_perm l).cons x)
theorem insI_srt (x : Int) : ∀ l : List Int, l.Pairwise (· ≤ ·) → (insI x l).Pairwise (· ≤ ·)
  | [], _ => by simp [insI]
  | y :: ys, h => by
    unfold insI
    split
    · rename_i hxy
      refine List.pairwise_cons.mpr ⟨fun z hz => ?_, h⟩
      rcases List.mem_cons.mp hz with rfl | hz
      · exact hxy
      · have := (List.pairwise_cons.mp h).1 z hz; omega
    · rename_i hxy
      refine List.pairwise_cons.mpr ⟨fun z hz => ?_, insI_srt x ys (List.pairwise_cons.mp h).2⟩
      rcases List.mem_cons.mp ((insI_perm x ys).mem_iff.mp hz) with rfl | hz
      · omega
      · exact (List.pairwise_cons.mp h).1 z hz
theorem sortI_srt : ∀ l : List Int, (sortI l).Pairwise (· ≤ ·)
  | [] => .nil
  | x :: l => insI_srt x _ (sortI_srt l)
abbrev leS (x y : Str) : Prop := ¬ y.cps.toList < x.cps.toList
theorem leS_trans {x y z : Str} (h : leS x y) (k : leS y z) : leS x z := by
  unfold leS at *
  exact List.not_lt.mpr (List.le_trans (List.not_lt.mp h) (List.not_lt.mp k))
theorem leS_anti {x y : Str} (h : leS x y) (k : leS y x) : x = y := by
  have e : x.cps.toList = y.cps.toList := List.le_antisymm (List.not_lt.mp h) (List.not_lt.mp k)
  cases x; cases y
  simp only [Str.mk.injEq]
  exact Array.toList_inj.mp e
theorem insS_srt (x : Str) : ∀ l : List Str, l.Pairwise leS → (insS x l).Pairwise leS
  | [], _ => by simp [insS]
  | y :: ys, h => by
    unfold insS
    split
    · rename_i hxy
      have hxy' : leS x y := fun q => List.lt_irrefl _ (List.lt_trans q hxy)
      refine List.pairwise_cons.mpr ⟨fun z hz => ?_, h⟩
      rcases List.mem_cons.mp hz with rfl | hz
      · exact hxy'
      · exact leS_trans hxy' ((List.pairwise_cons.mp h).1 z hz)
    · rename_i hxy
      refine List.pairwise_cons.mpr ⟨fun z hz => ?_, insS_srt x ys (List.pairwise_cons.mp h).2⟩
      rcases List.mem_cons.mp ((insS_perm x ys).mem_iff.mp hz) with rfl | hz
      · exact hxy
      · exact (List.pairwise_cons.mp h).1 z hz
theorem sortS_srt : ∀ l : List Str, (sortS l).Pairwise leS
  | [] => .nil
  | x :: l => insS_srt x _ (sortS_srt l)
theorem rising_leS : ∀ (l : List Str) (x : Str), risingS x l = true → (x :: l).Pairwise leS
  | [], x, _ => by simp
  | y :: l, x, h => by
    simp only [risingS, Bool.and_eq_true, Bool.not_eq_true', ltCps_eq, decide_eq_false_iff_not] at h
    have ih := rising_leS l y h.2
    refine List.pairwise_cons.mpr ⟨fun z hz => ?_, ih⟩
    rcases List.mem_cons.mp hz with rfl | hz
    · exact h.1
    · exact leS_trans h.1 ((List.pairwise_cons.mp ih).1 z hz)
theorem sortS_eq {xs ys : List Str} (p : ys.Perm xs) (h : sortedS ys = true) : ys = sortS xs := by
  have h' : ys.Pairwise leS := by
    cases ys with
    | nil => exact .nil
    | cons y l => exact rising_leS l y h
  exact List.Perm.eq_of_pairwise (fun a b _ _ h k => leS_anti h k) h' (sortS_srt xs) (p.trans (sortS_perm xs).symm)
theorem sortI_eq {xs ys : List Int} (p : ys.Perm xs) (h : ys.Pairwise (· ≤ ·)) : ys = sortI xs :=
  List.Perm.eq_of_pairwise (fun a b _ _ h k => Int.le_antisymm h k) h (sortI_srt xs) (p.trans (sortI_perm xs).symm)

/-! # built-ins by values -/
def rBI (K : PySem.W.Frag) (b : BI) : List V → Hp → VK → Prop := fun vs H Q => ∃ F ts r, Same F H ∧ VRs K H F vs ts ∧ biR b ts = some r ∧ RvAt K H F Q r
def biVal : BI → Value
  | .len => .builtin "len" | .int => .type "int" | .abs => .builtin "abs" | .str => .type "str" | .list => .type "list" | .tuple => .type "tuple"
  | .max2 => .builtin "max" | .min2 => .builtin "min" | .all => .builtin "all" | .gcd => .builtin "math.gcd" | .repr => .builtin "repr" | .sortedS => .builtin "sorted" | .bool => .type "bool"
  | .sum => .builtin "sum" | .sortedI => .builtin "sorted" | .sorted => .builtin "sorted"
section
variable {X : Cx}
theorem vrs1 {K : PySem.W.Frag} {H F : Hp} {vs : List V} {t : T} (h : VRs K H F vs [t]) : ∃ v, vs = [v] ∧ VR K H F v t := by
  cases h with | cons h hs => cases hs; exact ⟨_, rfl, h⟩
theorem vrs2 {K : PySem.W.Frag} {H F : Hp} {vs : List V} {t u : T} (h : VRs K H F vs [t, u]) : ∃ v w, vs = [v, w] ∧ VR K H F v t ∧ VR K H F w u := by
  cases h with | cons h hs => cases hs with | cons h' hs => cases hs; exact ⟨_, _, rfl, h, h'⟩
theorem VR.is_int {K : PySem.W.Frag} {H F : Hp} {v : V} {i : Int} (h : VR K H F v (.int i)) : v = .int i := by cases h with | fz d => exact d.is_int
theorem VR.is_str {K : PySem.W.Frag} {H F : Hp} {v : V} {i : Str} (h : VR K H F v (.str i)) : v = .str i := by cases h with | fz d => exact d.is_str
theorem VR.is_bl {K : PySem.W.Frag} {H F : Hp} {v : V} {i : Bool} (h : VR K H F v (.bl i)) : v = .bl i := by cases h with | fz d => exact d.is_bl
theorem cr_len : CallR X (biVal .len) (rBI X.K .len) := by
  intro pins s σ H xs us Q I r h
  obtain ⟨F, ts, rv, hs, vr, e, q⟩ := h
  match ts, e with
  | [t], e =>
    obtain ⟨v, rfl, d⟩ := vrs1 vr
    simp only [biR, Option.map_eq_some_iff] at e
    obtain ⟨n, en, rfl⟩ := e
    have seq : ∀ {xs : List T}, seqA t = some xs → n = xs.length → wpAny (model X.prog X.w) X.A (call (biVal .len) us) (EP X pins σ Q) X.xe s := by
      intro xs es el
      obtain ⟨a, vs, rfl, ha, da⟩ := d.seqA hs es
      refine call_len_seq pins s σ H _ us Q I r ⟨a, vs, rfl, ha, ?_⟩
      rw [da.length, ← el]
      exact q _ (.int _)
    cases t with
    | str y =>
      simp only [lenR] at en
      split at en
      · cases en
        exact call_len_str pins s σ H _ us Q I r ⟨y, by rw [d.is_str], by assumption, q _ (.int _)⟩
      · cases en
    | lst xs => simp only [lenR, Option.some.injEq] at en; exact seq rfl en.symm
    | rlst xs => simp only [lenR, Option.some.injEq] at en; exact seq rfl en.symm
    | tup xs => simp only [lenR, Option.some.injEq] at en; exact seq rfl en.symm
    | _ => simp [lenR] at en
theorem cr_BI0 (hc : X.calm = true) (b : BI) (hb : b ≠ .repr) (hb2 : b ≠ .sorted) : CallR X (biVal b) (rBI X.K b) := by
  cases b with
  | sorted => exact absurd rfl hb2
  | len => exact cr_len
  | repr => exact absurd rfl hb
  | int =>
    intro pins s σ H xs us Q I r h
    obtain ⟨F, ts, rv, hs, vr, e, q⟩ := h
    match ts, e with
    | [.int i], e =>
      obtain ⟨v, rfl, d⟩ := vrs1 vr
      cases e
      exact call_int1 pins s σ H _ us Q I r (.inl ⟨i, by rw [d.is_int], q _ (.int _)⟩)
    | [.bl i], e =>
      obtain ⟨v, rfl, d⟩ := vrs1 vr
      cases e
      exact call_int1 pins s σ H _ us Q I r (.inr ⟨i, by rw [d.is_bl], q _ (.int _)⟩)
  | bool =>
    intro pins s σ H xs us Q I r h
    obtain ⟨F, ts, rv, hs, vr, e, q⟩ := h
    match ts, e with
    | [.int i], e =>
      obtain ⟨v, rfl, d⟩ := vrs1 vr
      cases e
      exact call_bool1 pins s σ H _ us Q I r (.inl ⟨i, by rw [d.is_int], q _ (.bl _)⟩)
    | [.bl i], e =>
      obtain ⟨v, rfl, d⟩ := vrs1 vr
      cases e
      exact call_bool1 pins s σ H _ us Q I r (.inr ⟨i, by rw [d.is_bl], q _ (.bl _)⟩)
  | abs =>
    intro pins s σ H xs us Q I r h
    obtain ⟨F, ts, rv, hs, vr, e, q⟩ := h
    match ts, e with
    | [.int i], e =>
      obtain ⟨v, rfl, d⟩ := vrs1 vr
      cases e
      exact call_abs pins s σ H _ us Q I r ⟨i, by rw [d.is_int], q _ (.int _)⟩
  | str =>
    intro pins s σ H xs us Q I r h
    obtain ⟨F, ts, rv, hs, vr, e, q⟩ := h
    match ts, e with
    | [.int i], e =>
      obtain ⟨v, rfl, d⟩ := vrs1 vr
      simp only [biR] at e
      split at e
      · cases e
        exact call_str_int pins s σ H _ us Q I r ⟨i, by rw [d.is_int], by assumption, q _ (.str _)⟩
      · cases e
  | max2 =>
    intro pins s σ H xs us Q I r h
    obtain ⟨F, ts, rv, hs, vr, e, q⟩ := h
    match ts, e with
    | [.int i, .int j], e =>
      obtain ⟨v, w, rfl, d, d'⟩ := vrs2 vr
      cases e
      exact call_max2 hc pins s σ H _ us Q I r ⟨i, j, by rw [d.is_int, d'.is_int], q _ (.int _)⟩
  | min2 =>
    intro pins s σ H xs us Q I r h
    obtain ⟨F, ts, rv, hs, vr, e, q⟩ := h
    match ts, e with
    | [.int i, .int j], e =>
      obtain ⟨v, w, rfl, d, d'⟩ := vrs2 vr
      cases e
      exact call_min2 hc pins s σ H _ us Q I r ⟨i, j, by rw [d.is_int, d'.is_int], q _ (.int _)⟩
  | gcd =>
    intro pins s σ H xs us Q I r h
    obtain ⟨F, ts, rv, hs, vr, e, q⟩ := h
    match ts, e with
    | [.int i, .int j], e =>
      obtain ⟨v, w, rfl, d, d'⟩ := vrs2 vr
      cases e
      exact cr_gcd pins s σ H _ us Q I r ⟨i, j, by rw [d.is_int, d'.is_int], q _ (.int _)⟩
  | list =>
    intro pins s σ H xs us Q I r h
    obtain ⟨F, ts, rv, hs, vr, e, q⟩ := h
    match ts, e with
    | [t], e =>
      obtain ⟨v, rfl, d⟩ := vrs1 vr
      simp only [biR, Option.map_eq_some_iff] at e
      obtain ⟨xs, ex, rfl⟩ := e
      obtain ⟨a, vs, rfl, ha, da⟩ := d.seqA hs ex
      exact call_list_of pins s σ H _ us Q I r ⟨a, vs, rfl, ha, fun l hl => q l vs hl da⟩
  | tuple =>
    intro pins s σ H xs us Q I r h
    obtain ⟨F, ts, rv, hs, vr, e, q⟩ := h
    have seq : ∀ {t : T} {xs : List T} {v : V}, xs.length = xs.length → VR X.K H F v t → seqL t = some xs → RvAt X.K H F Q (.tup xs) → Vals [v] us → wpAny (model X.prog X.w) X.A (call (biVal .tuple) us) (EP X pins σ Q) X.xe s := by
      intro t xs v _ d es q r
      obtain ⟨a, vs, rfl, ha, da⟩ := d.seqL hs es
      exact call_tuple_of pins s σ H _ us Q I r ⟨a, vs, rfl, .inl ⟨ha, fun l hl => q.1 l vs hl da⟩⟩
    match ts, e with
    | [t], e =>
      obtain ⟨v, rfl, d⟩ := vrs1 vr
      cases t with
      | tup xs =>
        cases e
        obtain ⟨a, vs, rfl, ha, da⟩ := d.tupF.tup'
        exact call_tuple_of pins s σ H _ us Q I r ⟨a, vs, rfl, .inr ⟨same_t hs ha, q _ d.tupF⟩⟩
      | lst xs =>
        cases e
        exact seq rfl d rfl q r
      | rlst xs =>
        cases e
        exact seq rfl d rfl q r
      | _ => simp [biR, G.seqL] at e
    | [], e => simp [biR] at e
    | _ :: _ :: _, e => simp [biR] at e
  | all =>
    intro pins s σ H xs us Q I r h
    obtain ⟨F, ts, rv, hs, vr, e, q⟩ := h
    match ts, e with
    | [t], e =>
      obtain ⟨v, rfl, d⟩ := vrs1 vr
      simp only [biR, Option.map_eq_some_iff, Option.bind_eq_some_iff] at e
      obtain ⟨bs, ⟨xs, ex, eb⟩, rfl⟩ := e
      obtain ⟨a, vs, rfl, ha, da⟩ := d.seqL hs ex
      exact cr_all hc pins s σ H _ us Q I r ⟨a, bs, rfl, by rw [← blsT_den da eb]; exact ha, q _ (.bl _)⟩
  | sum =>
    intro pins s σ H xs us Q I r h
    obtain ⟨F, ts, rv, hs, vr, e, q⟩ := h
    match ts, e with
    | [t], e =>
      obtain ⟨v, rfl, d⟩ := vrs1 vr
      simp only [biR, Option.map_eq_some_iff, Option.bind_eq_some_iff] at e
      obtain ⟨bs, ⟨xs, ex, eb⟩, rfl⟩ := e
      obtain ⟨a, vs, rfl, ha, da⟩ := d.seqL hs ex
      exact cr_sum hc pins s σ H _ us Q I r ⟨a, bs, rfl, by rw [← intsT_den da eb]; exact ha, q _ (.int _)⟩
  | sortedS =>
    intro pins s σ H xs us Q I r h
    obtain ⟨F, ts, rv, hs, vr, e, q⟩ := h
    match ts, e with
    | [t], e =>
      obtain ⟨v, rfl, d⟩ := vrs1 vr
      simp only [biR, Option.bind_eq_some_iff] at e
      obtain ⟨bs, ⟨xs, ex, eb⟩, e⟩ := e
      split at e
      · cases e
        obtain ⟨a, vs, rfl, ha, da⟩ := d.seqL hs ex
        refine cr_sortedS pins s σ H _ us Q I r ⟨a, bs, rfl, by rw [← strsT_den da eb]; exact ha, by assumption, fun ys p hp hs hn => ?_⟩
        rw [sortS_eq hp hs]
        exact q p _ hn (.of_strs _)
      · cases e
  | sortedI =>
    intro pins s σ H xs us Q I r h
    obtain ⟨F, ts, rv, hs, vr, e, q⟩ := h
    match ts, e with
    | [t], e =>
      obtain ⟨v, rfl, d⟩ := vrs1 vr
      simp only [biR, Option.bind_eq_some_iff] at e
      obtain ⟨bs, ⟨xs, ex, eb⟩, e⟩ := e
      split at e
      · cases e
        obtain ⟨a, vs, rfl, ha, da⟩ := d.seqL hs ex
        refine cr_sorted pins s σ H _ us Q I r ⟨a, bs, rfl, by rw [← intsT_den da eb]; exact ha, by assumption, fun ys p hp hs hn => ?_⟩
        rw [sortI_eq hp hs]
        exact q p _ hn (.of_ints _)
      · cases e
theorem cr_BI (hc : X.calm = true) (b : BI) (hb : b ≠ .repr) : CallR X (biVal b) (rBI X.K b) := by
  by_cases hs : b = .sorted
  · subst hs
    intro pins s σ H xs us Q I r h
    obtain ⟨F, ts, rv, hs, vr, e, q⟩ := h
    match ts, e with
    | [t], e =>
      cases h1 : (seqL t).bind strsT with
      | some ss =>
        refine cr_BI0 hc .sortedS (by decide) (by decide) pins s σ H xs us Q I r ⟨F, [t], rv, hs, vr, ?_, q⟩
        simp only [biR, h1] at e ⊢
        exact e
      | none =>
        refine cr_BI0 hc .sortedI (by decide) (by decide) pins s σ H xs us Q I r ⟨F, [t], rv, hs, vr, ?_, q⟩
        simp only [biR, h1] at e ⊢
        exact e
  · exact cr_BI0 hc b hb hs
end
end G
namespace G
open PySem PySem.Spec PyProof.Rows L2

/-! # what a text must not be -/
def noStarE : Expr → Bool
  | .Starred _ _ => false
  | _ => true
def noStar (es : List Expr) : Bool := es.all noStarE
theorem star_ne {e : Expr} (h : noStarE e = true) : ∀ x p, e ≠ .Starred x p := fun x p q => by subst q; simp [noStarE] at h
theorem star_cons {e : Expr} {es : List Expr} {env : PySem.Env} (h : noStarE e = true) : starEach (e :: es) env = (false, eval e env) :: starEach es env := by
  cases e <;> first | rfl | (simp [noStarE] at h)
theorem star_any {pos : Pos} {env : PySem.Env} : ∀ {es : List Expr}, noStar es = true → (backTo pos (starEach es env)).any (·.1) = false
  | [], _ => rfl
  | e :: es, h => by
    simp only [noStar, List.all_cons, Bool.and_eq_true] at h
    rw [star_cons h.1]
    show (false || (backTo pos (starEach es env)).any (·.1)) = false
    rw [star_any (es := es) h.2]; rfl
theorem star_all {pos : Pos} {env : PySem.Env} : ∀ {es : List Expr}, noStar es = true → (backTo pos (starEach es env)).all (fun x => !x.1) = true
  | [], _ => rfl
  | e :: es, h => by
    simp only [noStar, List.all_cons, Bool.and_eq_true] at h
    rw [star_cons h.1]
    show (true && (backTo pos (starEach es env)).all (fun x => !x.1)) = true
    rw [star_all (es := es) h.2]; rfl
def noCall0 : Expr → Bool
  | .Call _ [] [] _ => false
  | _ => true
theorem base_of {o : Expr} {a : Str} {env : PySem.Env} {m : Sem Value} (h : noCall0 o = true) : attributeBase o a env m = m := by
  cases o with
  | Call f as ks p =>
    cases as with
    | nil =>
      cases ks with
      | nil => simp [noCall0] at h
      | cons _ _ => cases f <;> rfl
    | cons _ _ => cases f <;> rfl
  | _ => rfl
def isSl : Expr → Bool
  | .Slice _ _ _ _ => true
  | _ => false
theorem plainIx {b : Expr} (h : isSl b = false) : PlainIx b := fun o i => by
  cases b <;> first | rfl | (simp [isSl] at h)

section
variable {X : Cx} {W : WX} {a b c e : Expr} {es : List Expr} {ma mb mc : Env → Out R} {ms : Env → Out (List R)} {pos p : Pos} {x : Str}

/-! # calls of built-ins -/
def mBI (b : BI) (ms : Env → Out (List R)) : Env → Out R := fun env => (ms env).bind fun rs e1 => ofO ((looks e1 rs).bind fun ts => (biR b ts).map rvR) e1
theorem bi_imp {b : BI} {σ : L2.St} {H : Hp} {Q : VK} (h : tE X.K W (mBI b ms) σ H Q) : tCB (rBI X.K b) (tA X.K W ms) σ H Q := by
  obtain ⟨env, F, fp, E, q⟩ := h
  refine tA_intro E Stp.refl q fun rs e1 H1 F1 fp1 vs l E1 s1 rs1 t1 q1 => ?_
  obtain ⟨r, e, q2⟩ := ofO_asks q1
  simp only [Option.bind_eq_some_iff, Option.map_eq_some_iff] at e
  obtain ⟨ts, e1', rv, er, rfl⟩ := e
  exact ⟨F1, ts, rv, E1.sub, rs1.vrs E1 e1', er, rv_end E1 s1 q2⟩
theorem se_biB {b : BI} {id : String} (hc : CallR X (.builtin id) (rBI X.K b)) (hg : Gl X x) (hm : X.mg x = none) (hv : bootBuiltins x = some (.builtin id)) (ha : PA X (e :: es) (tA X.K W ms)) (hs : noStar (e :: es) = true) (hn : x ≠ "__name__") (hd : (x == ("__debug__" : Str)) = false) :
    PE X (.Call (.Name x p) (e :: es) [] pos) (tE X.K W (mBI b ms)) := by
  simp only [noStar, List.all_cons, Bool.and_eq_true] at hs
  exact pe_imp (pe_callB hc hg hm hv ha hn hd (star_cons hs.1) (star_any hs.2)) fun _ _ _ => bi_imp
theorem se_biT {b : BI} {id : String} (hc : CallR X (.type id) (rBI X.K b)) (hg : Gl X x) (hm : X.mg x = none) (hv : bootBuiltins x = some (.type id)) (ha : PA X (e :: es) (tA X.K W ms)) (hs : noStar (e :: es) = true) (hn : x ≠ "__name__") (hd : (x == ("__debug__" : Str)) = false) :
    PE X (.Call (.Name x p) (e :: es) [] pos) (tE X.K W (mBI b ms)) := by
  simp only [noStar, List.all_cons, Bool.and_eq_true] at hs
  exact pe_imp (pe_callTy hc hg hm hv ha hn hd (star_cons hs.1) (star_any hs.2)) fun _ _ _ => bi_imp
theorem se_biG {b : BI} {id : String} (hc : CallR X (.builtin id) (rBI X.K b)) (hg : Gl X x) (hm : X.mg x = some (.builtin id)) (ha : PA X (e :: es) (tA X.K W ms)) (hs : noStar (e :: es) = true) (hd : (x == ("__debug__" : Str)) = false) :
    PE X (.Call (.Name x p) (e :: es) [] pos) (tE X.K W (mBI b ms)) := by
  simp only [noStar, List.all_cons, Bool.and_eq_true] at hs
  exact pe_imp (pe_callBfun hc hg hm ha hd (star_cons hs.1) (star_any hs.2)) fun _ _ _ => bi_imp

/-! # isinstance -/
theorem vr_ty {K : PySem.W.Frag} {H F : Hp} {v : V} {t : T} (s : Same F H) (h : VR K H F v t) (nd : isDicT t = false) : TyX K H v (.type (tyName t)) := by
  have hd := h.den s
  clear h
  cases hd with
  | non => exact .base .non
  | bl b => exact .base (.bl b)
  | int b => exact .base (.int b)
  | str b => exact .base (.str b)
  | lst e d => exact .base (.lst e)
  | dic e d => cases nd
  | tup e d =>
    rcases e with e | ⟨o, its, n, e, hc, _⟩
    · rcases e with e | ⟨o, e⟩
      · exact .base (.tup e)
      · exact .fTuple e
    · exact .kTuple e hc
  | rlst e d =>
    rcases e with e | ⟨o, its, n, e, hc, _⟩
    · rcases e with e | ⟨o, e⟩
      · exact .base (.lst e)
      · exact .base (.frz e)
    · exact .kList e hc
def tyOne (t ty : String) : Bool := ty == t || (t == "bool" && ty == "int")
def isTys : List String := ["int", "bool", "str", "tuple", "list", "dict"]
theorem kit_all : (["NoneType", "bool", "int", "str", "tuple", "list", "dict"].all fun t => isTys.all fun ty => decide (kitB t ty = some (tyOne t ty))) = true := by decide +kernel
theorem kit_is (t : T) {ty : String} (h : ty ∈ isTys) : kitB (tyName t) ty = some (tyOne (tyName t) ty) := by
  have h1 := kit_all
  rw [List.all_eq_true] at h1
  have h2 := h1 (tyName t) (by cases t <;> simp [tyName])
  rw [List.all_eq_true] at h2
  exact of_decide_eq_true (h2 ty h)
theorem isin_one (t : T) (ty : String) : isinR t [ty] = tyOne (tyName t) ty := by
  simp only [isinR, List.any_cons, List.any_nil, Bool.or_false, tyOne]
def mIsin (tys : List String) (ma : Env → Out R) : Env → Out R := fun env => (ma env).bind fun ra e1 => ofO ((lookT e1 ra).bind fun t => if isDicT t then none else some (R.val (.bl (isinR t tys)))) e1
theorem se_isin1 {ty : String} {y : Str} {p1 p2 : Pos} (hg : Gl X "isinstance") (hm : X.mg "isinstance" = none) (ha : PE X a (tE X.K W ma)) (hb : PE X (.Name y p1) (tC (.ty ty))) (hs : noStarE a = true) (ht : ty ∈ isTys) :
    PE X (.Call (.Name "isinstance" p2) [a, .Name y p1] [] pos) (tE X.K W (mIsin [ty] ma)) := by
  refine pe_imp (pe_callB call_isi hg hm (by decide +kernel) (pa_cons ha (pa_cons hb pa_nil) (star_cons hs)) (by decide) (by decide) (star_cons hs) rfl) fun σ H Q ⟨env, F, fp, E, q⟩ => ?_
  refine tE_intro E Stp.refl q fun ra e1 H1 F1 fp1 v l E1 s1 ra1 t1 q1 => ?_
  obtain ⟨r, e, q2⟩ := ofO_asks q1
  obtain ⟨t, et, e'⟩ := Option.bind_eq_some_iff.mp e
  split at e'
  · cases e'
  rename_i nd
  cases e'
  refine ⟨v, .ty ty, .type (tyName t), .type ty, isinR t [ty], rfl, .ty ty, vr_ty E1.sub (ra1.vr E1 et) (by simpa using nd), kit_ty ?_, q2 H1 F1 fp1 E1 s1 _ [] (.val (.bl _)) .nil⟩
  rw [kit_is t ht, isin_one]
theorem kit_any {K : PySem.W.Frag} (t : T) : ∀ {tys : List String}, (∀ ty ∈ tys, ty ∈ isTys) → PySem.W.kitAny K (.type (tyName t)) (tys.map Value.type) = some (isinR t tys)
  | [], _ => rfl
  | ty :: tys, h => by
    have h1 := kit_is t (h ty (by simp))
    have h2 := kit_any (K := K) t (tys := tys) fun z hz => h z (by simp [hz])
    have h3 : isinR t (ty :: tys) = (tyOne (tyName t) ty || isinR t tys) := by simp only [isinR, List.any_cons, tyOne]
    refine kitAny_cons (b := tyOne (tyName t) ty) (kit_ty h1) (fun hb => ?_) fun hb => ?_
    · rw [h3, hb]; exact h2
    · rw [h3, hb]; rfl
theorem se_isinN {tys : List String} {ns : List Expr} {k : Nat} {p1 p2 : Pos} (hg : Gl X "isinstance") (hm : X.mg "isinstance" = none) (ha : PE X a (tE X.K W ma)) (hb : PA X ns fun _ H Q => Q (tys.map V.ty) H) (hs : noStarE a = true) (ht : ∀ ty ∈ tys, ty ∈ isTys)
    (hl : tys.length ≤ sizeLine) : PE X (.Call (.Name "isinstance" p2) [a, .Tuple ns k p1] [] pos) (tE X.K W (mIsin tys ma)) := by
  refine pe_imp (pe_callB call_isiT hg hm (by decide +kernel) (pa_cons ha (pa_cons (pe_tup hb) pa_nil) (star_cons hs)) (by decide) (by decide) (star_cons hs) rfl) fun σ H Q ⟨env, F, fp, E, q⟩ => ?_
  refine tE_intro E Stp.refl q fun ra e1 H1 F1 fp1 v l E1 s1 ra1 t1 q1 => ?_
  obtain ⟨r, e, q2⟩ := ofO_asks q1
  obtain ⟨t, et, e'⟩ := Option.bind_eq_some_iff.mp e
  split at e'
  · cases e'
  rename_i nd
  cases e'
  refine ⟨by rw [List.length_map]; exact hl, fun tp hp => ?_⟩
  have E2 := E1.alloc (o := .tup (tys.map V.ty)) hp
  have pr : ∀ l : List String, Paired ClsV (l.map V.ty) (l.map Value.type) := fun l => by
    induction l with
    | nil => exact .nil
    | cons z zs ih => exact .cons (.ty z) ih
  have v2 : VR X.K (upd H1 tp (.tup (tys.map V.ty))) F1 v t := (ra1.step t1 (Stp.refl.alloc hp)).vr E2 et
  exact ⟨v, tp, _, _, tys.map Value.type, isinR t tys, rfl, upd_same, pr tys, vr_ty E2.sub v2 (by simpa using nd), kit_any t ht, q2 _ _ fp1 E2 (s1.alloc hp) _ [] (.val (.bl _)) .nil⟩

/-! # slices -/
def tO (K : PySem.W.Frag) (W : WX) (m : Env → Out (Option Int)) : TO := fun σ H Q => ∃ env F fp, EnvR K env σ H F fp ∧
  (m env).asks K W σ H F (fpOf env fp) fun r env' H' F' fp' => Q r H'
theorem tO_intro {β : Type} {K : PySem.W.Frag} {σ : L2.St} {env : Env} {H F H0 F0 : Hp} {fp : Nat → List Addr} {P0 : Fp} {m : Env → Out (Option Int)} {f : Option Int → Env → Out β} {Q0 : β → Env → Hp → Hp → (Nat → List Addr) → Prop} {Q : Option Int → Hp → Prop} (E : EnvR K env σ H F fp) (s : Stp P0 H0 F0 (fpOf env fp) H F) (h : ((m env).bind f).asks K W σ H0 F0 P0 Q0)
    (k : ∀ r env2 H2 F2 fp2, EnvR K env2 σ H2 F2 fp2 → Stp (fpOf env fp) H F (fpOf env2 fp2) H2 F2 → (f r env2).asks K W σ H0 F0 P0 Q0 → Q r H2) : tO K W m σ H Q := by
  refine ⟨env, F, fp, E, ?_⟩
  cases e : m env with
  | stuck => rw [e] at h; exact h
  | exc x env' => rw [e] at h; exact fun cls d H' F' fp' E' t x => h cls d H' F' fp' E' (s.trans t) x
  | ok r env2 => rw [e] at h; exact fun H' F' fp' E' t => k r env2 H' F' fp' E' t h
theorem so_none : PO X none (tO X.K W fun env => .ok none env) := ⟨fun pins s σ H Q I ⟨env, F, fp, E, q⟩ => po_none.run pins s σ H Q I (q H F fp E Stp.refl)⟩
theorem so_some (ha : PE X a (tE X.K W ma)) : PO X (some a) (tO X.K W fun env => (ma env).bind fun r e1 => match r with | .val (.int i) => .ok (some i) e1 | _ => .stuck) := by
  refine ⟨fun pins s σ H Q I ⟨env, F, fp, E, q⟩ => (po_some ha).run pins s σ H Q I ?_⟩
  refine tE_intro E Stp.refl q fun ra e1 H1 F1 fp1 v l E1 s1 ra1 t1 q1 => ?_
  cases ra1 with
  | val d =>
    cases d with
    | int i => exact ⟨i, rfl, q1 H1 F1 fp1 E1 s1⟩
    | _ => exact q1.elim
  | _ => exact q1.elim
theorem cut_den {K : PySem.W.Frag} {F : Hp} {vs : List V} {ts : List T} {lo hi : Option Int} (d : DenAll K F vs ts) : DenAll K F (cutV vs lo hi) (cutT ts lo hi) := by
  unfold cutV cutT
  rw [d.length]
  exact (d.drop _).take _
theorem sl_R : SlR X (fun x lo hi H Q => ∃ F t r, Same F H ∧ VR X.K H F x t ∧ slR t lo hi = some r ∧ RvAt X.K H F Q r) := by
  intro pins s σ H x v vl vu lo hi sl Q I rx hs pl pu h
  obtain ⟨F, t, r, sF, vr, e, q⟩ := h
  cases t with
  | lst xs =>
    cases e
    obtain ⟨a, vs, rfl, ha, da⟩ := vr.lstF sF
    exact sl_list pins s σ H _ v vl vu lo hi sl Q I rx hs pl pu ⟨a, vs, rfl, .inl (.inl ha), fun p hp => q p _ hp (cut_den da)⟩
  | rlst xs =>
    cases e
    obtain ⟨a, vs, rfl, ha, da⟩ := vr.rlstF sF
    exact sl_list pins s σ H _ v vl vu lo hi sl Q I rx hs pl pu ⟨a, vs, rfl, ha, fun p hp => q p _ hp (cut_den da)⟩
  | tup xs =>
    cases e
    obtain ⟨a, vs, rfl, ha, da⟩ := vr.tupF.tup'
    refine sl_tupA pins s σ H _ v vl vu lo hi sl Q I rx hs pl pu ⟨a, vs, rfl, same_t sF ha, fun ⟨e1, e2⟩ => ?_, fun _ p hp => q.1 p _ hp (cut_den da)⟩
    have : cutT xs lo hi = xs := by
      unfold cutT
      rw [← da.length, e1, e2, List.drop_zero, da.length, Nat.sub_zero, List.take_length]
    rw [this] at q
    exact q.2 _ vr.tupF
  | str z =>
    simp only [slR] at e
    split at e
    · cases e
      exact sl_str pins s σ H _ v vl vu lo hi sl Q I rx hs pl pu ⟨z, vr.is_str, by assumption, q _ (.str _)⟩
    · cases e
  | _ => simp [slR] at e
theorem se_sl {lo hi : Option Expr} {ml mh : Env → Out (Option Int)} {p2 : Pos} (ha : PE X a (tE X.K W ma)) (hl : PO X lo (tO X.K W ml)) (hh : PO X hi (tO X.K W mh)) : PE X (.Subscript a (.Slice lo hi none p2) pos)
    (tE X.K W fun env => (ma env).bind fun ra e1 => (ml e1).bind fun rl e2 => (mh e2).bind fun rh e3 => ofO ((lookT e3 ra).bind fun x => (slR x rl rh).map rvR) e3) := by
  refine pe_imp (pe_slice sl_R ha hl hh) fun σ H Q ⟨env, F, fp, E, q⟩ => ?_
  refine tE_intro E Stp.refl q fun ra e1 H1 F1 fp1 v l E1 s1 ra1 t1 q1 => ?_
  refine tO_intro E1 s1 q1 fun rl e2 H2 F2 fp2 E2 s2 q2 => ?_
  refine tO_intro E2 (s1.trans s2) q2 fun rh e3 H3 F3 fp3 E3 s3 q3 => ?_
  obtain ⟨r, e, q4⟩ := ofO_asks q3
  simp only [Option.bind_eq_some_iff, Option.map_eq_some_iff] at e
  obtain ⟨x, ex, rv, er, rfl⟩ := e
  exact ⟨F3, x, rv, E3.sub, (ra1.step t1 (s2.trans s3)).vr E3 ex, er, rv_end E3 ((s1.trans s2).trans s3) q4⟩

/-! # tests -/
theorem tE_intro' {β : Type} {K : PySem.W.Frag} {σ : L2.St} {env : Env} {H F H0 F0 : Hp} {fp : Nat → List Addr} {P0 : Fp} {m : Env → Out R} {f : R → Env → Out β} {Q0 : β → Env → Hp → Hp → (Nat → List Addr) → Prop} {Q : VK} (E : EnvR K env σ H F fp) (s : Stp P0 H0 F0 (fpOf env fp) H F) (h : ((m env).bind f).asks K W σ H0 F0 P0 Q0)
    (k : ∀ r env2 H2 F2 fp2 v l, m env = .ok r env2 → EnvR K env2 σ H2 F2 fp2 → Stp (fpOf env fp) H F (fpOf env2 fp2) H2 F2 → RR K σ H2 F2 r v l → Tmp H (fpOf env fp) F2 (fpOf env2 fp2) l → (f r env2).asks K W σ H0 F0 P0 Q0 → Q v H2) : tE K W m σ H Q := by
  refine ⟨env, F, fp, E, ?_⟩
  cases e : m env with
  | stuck => rw [e] at h; exact h
  | exc x env' => rw [e] at h; exact fun cls d H' F' fp' E' t x => h cls d H' F' fp' E' (s.trans t) x
  | ok r env2 => rw [e] at h; exact fun H' F' fp' E' t v l rr tm => k r env2 H' F' fp' v l e E' t rr tm h
def mTru (ma : Env → Out R) : Env → Out Bool := fun env => (ma env).bind fun r e1 => ofO ((lookT e1 r).bind truR) e1
theorem tru_imp {σ : L2.St} {H : Hp} {Q : Bool → Hp → Prop} (h : G.tB X.K W (mTru ma) σ H Q) : tE X.K W ma σ H fun x H' => ∃ k, TruV X.K x H' k ∧ Q k H' := by
  obtain ⟨env, F, fp, E, q⟩ := h
  refine tE_intro E Stp.refl q fun ra e1 H1 F1 fp1 v l E1 s1 ra1 t1 q1 => ?_
  obtain ⟨r, e, q2⟩ := ofO_asks q1
  simp only [Option.bind_eq_some_iff] at e
  obtain ⟨t, et, ek⟩ := e
  exact ⟨r, ((ra1.vr E1 et).den E1.sub).tru ek, q2 H1 F1 fp1 E1 s1⟩
theorem tru_bl {σ : L2.St} {H : Hp} {Q : Bool → Hp → Prop} (hb : ∀ env r e1, ma env = .ok r e1 → ∃ b, r = .val (.bl b)) (h : G.tB X.K W (mTru ma) σ H Q) : tE X.K W ma σ H fun x H' => ∃ k, x = .bl k ∧ Q k H' := by
  obtain ⟨env, F, fp, E, q⟩ := h
  refine tE_intro' E Stp.refl q fun ra e1 H1 F1 fp1 v l eq E1 s1 ra1 t1 q1 => ?_
  obtain ⟨b, rfl⟩ := hb _ _ _ eq
  cases ra1 with
  | val d =>
    cases d
    exact ⟨b, rfl, q1 H1 F1 fp1 E1 s1⟩
theorem bind_ok {α β : Type} {o : Out α} {f : α → Env → Out β} {b : β} {e : Env} (h : o.bind f = .ok b e) : ∃ a e1, o = .ok a e1 ∧ f a e1 = .ok b e := by
  cases o with
  | ok a e1 => exact ⟨a, e1, rfl, h⟩
  | exc _ _ => cases h
  | stuck => cases h
theorem ofO_ok {α : Type} {o : Option α} {b : α} {e e1 : Env} (h : ofO o e = .ok b e1) : o = some b ∧ e = e1 := by
  cases o with
  | none => cases h
  | some a => cases h; exact ⟨rfl, rfl⟩
theorem cmp_bl {op : CmpOp} : ∀ env r e1, mCmp op ma mb env = .ok r e1 → ∃ b, r = .val (.bl b) := fun env r e1 h => by
  obtain ⟨ra, e2, h1, h⟩ := bind_ok h
  obtain ⟨rb, e3, h2, h⟩ := bind_ok h
  obtain ⟨h, _⟩ := ofO_ok h
  simp only [Option.bind_eq_some_iff, Option.map_eq_some_iff] at h
  obtain ⟨_, _, _, _, b, _, rfl⟩ := h
  exact ⟨b, rfl⟩
theorem chain_bl {op op' : CmpOp} : ∀ env r e1, mChain op op' ma mb mc env = .ok r e1 → ∃ b, r = .val (.bl b) := fun env r e1 h => by
  obtain ⟨ra, e2, h1, h⟩ := bind_ok h
  obtain ⟨rb, e3, h2, h⟩ := bind_ok h
  split at h
  · obtain ⟨rc, e4, h3, h⟩ := bind_ok h
    obtain ⟨h, _⟩ := ofO_ok h
    simp only [Option.bind_eq_some_iff, Option.map_eq_some_iff] at h
    obtain ⟨_, _, _, _, b, _, rfl⟩ := h
    exact ⟨b, rfl⟩
  · cases h; exact ⟨false, rfl⟩
  · cases h
theorem st_cmp (hu : X.A.units + 65 < cLine) {op : CmpOp} (ha : PE X a (tE X.K W ma)) (hb : PE X b (tE X.K W mb)) (hm : behindInMarks op b = false) : PT X (.Compare a [op] [b] pos) (G.tB X.K W (mTru (mCmp op ma mb))) :=
  pt_imp (pt_cmpR (op_cmpR hu op) ha hb hm) fun _ _ _ h => cmp_imp (tru_bl cmp_bl h)
theorem st_chain (hu : X.A.units + 65 < cLine) {op op' : CmpOp} (ha : PE X a (tE X.K W ma)) (hb : PE X b (tE X.K W mb)) (hc : PE X c (tE X.K W mc)) (hm : behindInMarks op' c = false) :
    PT X (.Compare a [op, op'] [b, c] pos) (G.tB X.K W (mTru (mChain op op' ma mb mc))) :=
  pt_imp (pt_chain (op_cmpR hu op) (op_cmpR hu op') ha hb hc (marks2 hm)) fun _ _ _ h => chain_imp (tru_bl chain_bl h)
def plainT : Expr → Bool
  | .UnaryOp .Not _ _ => false
  | .BoolOp _ _ _ => false
  | .IfExp _ _ _ _ => false
  | .Compare _ _ _ _ => false
  | _ => true
theorem st_val (ha : PE X a (tE X.K W ma)) (hp : plainT a = true) : PT X a (G.tB X.K W (mTru ma)) := by
  refine pt_imp (pt_truth ha fun whole => ?_) fun _ _ _ h => tru_imp h
  cases a with
  | UnaryOp op e p => cases op <;> first | rfl | (simp [plainT] at hp)
  | BoolOp _ _ _ => simp [plainT] at hp
  | IfExp _ _ _ _ => simp [plainT] at hp
  | Compare _ _ _ _ => simp [plainT] at hp
  | _ => rfl
variable {ka kb : Env → Out Bool}
theorem st_not (ha : PT X a (G.tB X.K W ka)) : PT X (.UnaryOp .Not a pos) (G.tB X.K W fun env => (ka env).bind fun k e1 => .ok (!k) e1) :=
  pt_imp (pt_not ha) fun σ H Q ⟨env, F, fp, E, q⟩ => tB_intro E Stp.refl q fun k e1 H1 F1 fp1 E1 s1 q1 => q1 H1 F1 fp1 E1 s1
theorem st_and {rest : List Expr} (ha : PT X a (G.tB X.K W ka)) (hb : PW X (.BoolOp .And (b :: rest) pos) (G.tB X.K W kb)) : PW X (.BoolOp .And (a :: b :: rest) pos)
    (G.tB X.K W fun env => (ka env).bind fun k e1 => if k then kb e1 else .ok false e1) := by
  refine pw_imp (pw_and ha hb) fun σ H Q ⟨env, F, fp, E, q⟩ => ?_
  refine tB_intro E Stp.refl q fun k e1 H1 F1 fp1 E1 s1 q1 => ?_
  cases k with
  | true => rw [if_pos rfl] at q1 ⊢; exact ⟨e1, F1, fp1, E1, Out.asks_mono s1 q1 fun _ _ _ _ _ _ _ q => q⟩
  | false => rw [if_neg Bool.false_ne_true] at q1 ⊢; exact q1 H1 F1 fp1 E1 s1
theorem st_or {rest : List Expr} (ha : PT X a (G.tB X.K W ka)) (hb : PW X (.BoolOp .Or (b :: rest) pos) (G.tB X.K W kb)) : PW X (.BoolOp .Or (a :: b :: rest) pos)
    (G.tB X.K W fun env => (ka env).bind fun k e1 => if k then .ok true e1 else kb e1) := by
  refine pw_imp (pw_or ha hb) fun σ H Q ⟨env, F, fp, E, q⟩ => ?_
  refine tB_intro E Stp.refl q fun k e1 H1 F1 fp1 E1 s1 q1 => ?_
  cases k with
  | true => rw [if_pos rfl] at q1 ⊢; exact q1 H1 F1 fp1 E1 s1
  | false => rw [if_neg Bool.false_ne_true] at q1 ⊢; exact ⟨e1, F1, fp1, E1, Out.asks_mono s1 q1 fun _ _ _ _ _ _ _ q => q⟩
end
end G
namespace G
open PySem PySem.Spec PyProof.Rows L2
section
variable {X : Cx} {W : WX} {a b c e o f : Expr} {es : List Expr} {ma mb mc mo mk mx : Env → Out R} {ms : Env → Out (List R)} {pos p apos : Pos} {x : Str}

/-! # methods -/
theorem se_bits (ho : PE X o (tE X.K W mo)) (hb : noCall0 o = true) (hl : (apos.endLine == pos.line) = true) : PE X (.Call (.Attribute o "bit_length" apos) [] [] pos)
    (tE X.K W fun env => (mo env).bind fun ro e1 => match ro with | .val t => ofO ((met0R .bits t).map rvR) e1 | _ => .stuck) := by
  refine pe_imp (pe_bits ho (base_of hb) hl) fun σ H Q ⟨env, F, fp, E, q⟩ => ?_
  refine tE_intro E Stp.refl q fun ra e1 H1 F1 fp1 v l E1 s1 ra1 t1 q1 => ?_
  cases ra1 with
  | val d =>
    obtain ⟨r, e, q2⟩ := ofO_asks q1
    cases d with
    | int i => cases e; exact ⟨i, rfl, q2 H1 F1 fp1 E1 s1 _ [] (.val (.int _)) .nil⟩
    | _ => simp [met0R] at e
  | _ => exact q1.elim
theorem se_m0 {m : Me0} {id : String} {name : Str} {r : V → List V → Hp → VK → Prop} (slot : Slot "str" name id) (ty : typeOf (.builtin id) = pure (.type "method_descriptor")) (rule : MtR X id r)
    (hr : ∀ s rv H F Q, met0R m (.str s) = some rv → RvAt X.K H F Q rv → r (.str s) [] H Q) (hn : ∀ t rv, met0R m t = some rv → ∃ s, t = .str s) (ho : PE X o (tE X.K W mo)) (hb : noCall0 o = true) (hl : (apos.endLine == pos.line) = true) :
    PE X (.Call (.Attribute o name apos) [] [] pos) (tE X.K W fun env => (mo env).bind fun ro e1 => match ro with | .val t => ofO ((met0R m t).map rvR) e1 | _ => .stuck) := by
  refine pe_imp (pe_m0 slot ty rule ho (base_of hb) hl) fun σ H Q ⟨env, F, fp, E, q⟩ => ?_
  refine tE_intro E Stp.refl q fun ra e1 H1 F1 fp1 v l E1 s1 ra1 t1 q1 => ?_
  cases ra1 with
  | val d =>
    obtain ⟨rr, e, q2⟩ := ofO_asks q1
    obtain ⟨rv, ev, rfl⟩ := Option.map_eq_some_iff.mp e
    obtain ⟨s, rfl⟩ := hn _ _ ev
    have hv := d.is_str
    subst hv
    exact ⟨⟨s, rfl⟩, hr s rv H1 F1 Q ev (rv_end E1 s1 q2)⟩
  | _ => exact q1.elim
theorem se_m1 {m : Me1} {id : String} {name : Str} {r : V → List V → Hp → VK → Prop} (slot : Slot "str" name id) (ty : typeOf (.builtin id) = pure (.type "method_descriptor")) (rule : MtR X id r)
    (hr : ∀ s t y rv H F Q, Same F H → VR X.K H F y t → met1R m s t = some rv → RvAt X.K H F Q rv → r (.str s) [y] H Q) (ho : PE X o (tE X.K W mo)) (ha : PE X a (tE X.K W ma)) (hb : noCall0 o = true) (hs : noStarE a = true) (hl : (apos.endLine == pos.line) = true) :
    PE X (.Call (.Attribute o name apos) [a] [] pos) (tE X.K W fun env => (mo env).bind fun ro e1 => match ro with
    | .val (.str s) => (ma e1).bind fun ra e2 => ofO ((lookT e2 ra).bind fun t => (met1R m s t).map rvR) e2
    | _ => .stuck) := by
  refine pe_imp (pe_m1 slot ty rule ho ha (star_cons hs) (base_of hb) hl) fun σ H Q ⟨env, F, fp, E, q⟩ => ?_
  refine tE_intro E Stp.refl q fun ra e1 H1 F1 fp1 v l E1 s1 ra1 t1 q1 => ?_
  cases ra1 with
  | val d =>
    cases d with
    | str s =>
      refine ⟨⟨s, rfl⟩, ?_⟩
      refine tE_intro E1 s1 q1 fun rb e2 H2 F2 fp2 w l2 E2 s2 rb2 t2 q2 => ?_
      obtain ⟨rr, e, q3⟩ := ofO_asks q2
      simp only [Option.bind_eq_some_iff, Option.map_eq_some_iff] at e
      obtain ⟨t, et, rv, er, rfl⟩ := e
      exact hr s t w rv H2 F2 Q E2.sub (rb2.vr E2 et) er (rv_end E2 (s1.trans s2) q3)
    | _ => exact q1.elim
  | _ => exact q1.elim
theorem se_join (ho : PE X o (tE X.K W mo)) (ha : PE X a (tE X.K W ma)) (hb : noCall0 o = true) (hs : noStarE a = true) (hl : (apos.endLine == pos.line) = true) :
    PE X (.Call (.Attribute o "join" apos) [a] [] pos) (tE X.K W fun env => (mo env).bind fun ro e1 => match ro with
    | .val (.str s) => (ma e1).bind fun ra e2 => ofO ((lookT e2 ra).bind fun t => (met1R .join s t).map rvR) e2
    | _ => .stuck) :=
  se_m1 F.slot_str_join F.type_str_join mt_join (fun s t y rv H F Q hF d e q => by
    simp only [met1R, Option.bind_eq_some_iff] at e
    obtain ⟨ss, ⟨xs, ex, es⟩, e⟩ := e
    split at e
    · cases e
      obtain ⟨p, vs, rfl, hp, da⟩ := d.seqA hF ex
      have hv := strsT_den da es
      subst hv
      exact ⟨s, p, ss, rfl, rfl, hp, by assumption, q _ (.str _)⟩
    · cases e) ho ha hb hs hl
theorem se_split (ho : PE X o (tE X.K W mo)) (ha : PE X a (tE X.K W ma)) (hb : noCall0 o = true) (hs : noStarE a = true) (hl : (apos.endLine == pos.line) = true) :
    PE X (.Call (.Attribute o "split" apos) [a] [] pos) (tE X.K W fun env => (mo env).bind fun ro e1 => match ro with
    | .val (.str s) => (ma e1).bind fun ra e2 => ofO ((lookT e2 ra).bind fun t => (met1R .split s t).map rvR) e2
    | _ => .stuck) :=
  se_m1 F.slot_str_split F.type_str_split mt_split (fun s t y rv H F Q hF d e q => by
    cases t with
    | str b =>
      simp only [met1R] at e
      split at e
      · rename_i hc
        cases e
        exact ⟨s, b, rfl, by rw [d.is_str], hc.1, hc.2, fun p hp => q p _ hp (.of_strs _)⟩
      · cases e
    | _ => simp [met1R, G.seqA] at e) ho ha hb hs hl
theorem se_dget2 (hu : X.A.units + 1 < cLine) (ho : PE X o (tE X.K W mo)) (hk : PE X e (tE X.K W mk)) (hx : PE X f (tE X.K W mx)) (hb : noCall0 o = true) (hs : noStar [e, f] = true) (hl : (apos.endLine == pos.line) = true) :
    PE X (.Call (.Attribute o "get" apos) [e, f] [] pos) (tE X.K W fun env => (mo env).bind fun ro e1 => match lookT e1 ro with
    | some (.dic _) => (mk e1).bind fun rk e2 => (mx e2).bind fun rx e3 => ofO (match lookT e3 ro, (lookT e3 rk).bind keyT, esc e3 rx with
      | some (.dic kts), some k, some t => some (R.val ((valT kts k).getD t))
      | _, _, _ => none) e3
    | _ => .stuck) := by
  have hs' := hs
  simp only [noStar, List.all_cons, List.all_nil, Bool.and_true, Bool.and_eq_true] at hs'
  refine pe_imp (pe_dget2 hu ho hk hx ⟨base_of hb, by rw [star_all hs]; rfl, hl, by rw [star_cons hs'.1, star_cons hs'.2]; rfl⟩) fun σ H Q ⟨env, F, fp, E, q⟩ => ?_
  refine tE_intro E Stp.refl q fun ro e1 H1 F1 fp1 v l E1 s1 ro1 t1 q1 => ?_
  cases el : lookT e1 ro with
  | none => simp only [el] at q1; exact q1.elim
  | some t0 =>
    cases t0 with
    | dic kts0 =>
      simp only [el] at q1
      obtain ⟨a, kvs, rfl, ha, da⟩ := (ro1.vr E1 el).dicF E1.sub
      refine ⟨a, rfl, .inl ⟨kvs, ha⟩, ?_⟩
      refine tE_intro E1 s1 q1 fun rk e2 H2 F2 fp2 vk lk E2 s2 rk2 t2 q2 => ?_
      refine tE_intro E2 (s1.trans s2) q2 fun rx e3 H3 F3 fp3 vx lx E3 s3 rx3 t3 q3 => ?_
      obtain ⟨rr, e, q4⟩ := ofO_asks q3
      cases e1' : lookT e3 ro with
      | none => rw [e1'] at e; simp at e
      | some td =>
        cases e2' : (lookT e3 rk).bind keyT with
        | none => rw [e1', e2'] at e; simp at e
        | some k =>
          cases e3' : esc e3 rx with
          | none => rw [e1', e2', e3'] at e; simp at e
          | some t =>
            rw [e1', e2', e3'] at e
            cases td with
            | dic kts =>
              simp only [Option.some.injEq] at e
              subst e
              obtain ⟨tk, etk, ek⟩ := Option.bind_eq_some_iff.mp e2'
              have ro3 := ro1.step t1 (s2.trans s3)
              obtain ⟨F4, sF, dx, E4, s4, _⟩ := esc_ok rx3 E3 (t3.base (s1.trans s2)) ((s1.trans s2).trans s3) e3'
              obtain ⟨a', kvs', ea, ha', da'⟩ := (ro3.vr E3 e1').dicF E3.sub
              cases ea
              have hk3 := (((rk2.step t2 s3).vr E3 etk).den E3.sub).key ek
              refine ⟨valV kvs' k, .inl ⟨kvs', k, ha', hk3, rfl⟩, q4 H3 F4 fp3 E4 s4 _ [] (.val ?_) .nil⟩
              rcases da'.val k with ⟨w, t', ew, et, dw⟩ | ⟨ew, et⟩
              · rw [ew, et]; exact dw.mono sF
              · rw [ew, et]; exact dx
            | _ => simp at e
    | _ => simp only [el] at q1; exact q1.elim
end
end G
namespace G
open PySem PySem.Spec PyProof.Rows L2

/-! # what is walked -/
/-- a turn's item -/
def Yd (K : PySem.W.Frag) (H F : Hp) (x : V) (H' : Hp) (t : T) : Prop :=
  (H' = H ∧ Den K F x t) ∨ ∃ p vs ts, H p = none ∧ H' = upd H p (.tup vs) ∧ x = .ref p ∧ t = .tup ts ∧ DenAll K F vs ts
structure SrcOk (K : PySem.W.Frag) (J : It) (items : List T) (Std : Fp → Hp → Hp → Prop) : Prop where
  go : ∀ i P H F, Std P H F → Same F H → i < items.length → J.go i H
  stop : ∀ i P H F, Std P H F → Same F H → items.length ≤ i → J.stop i H
  yld : ∀ i P H F x H' t, Std P H F → Same F H → J.yld i H x H' → items[i]? = some t → Yd K H F x H' t
  step : ∀ P H F P' H' F', Std P H F → Stp P H F P' H' F' → Std P' H' F'
/-- a thing that stands -/
def Stands (P : Fp) (H : Hp) (a : Addr) (o : HO) : Prop := H a = some o ∧ ¬ P.own a
theorem Stands.step {P P' : Fp} {H H' F F' : Hp} {a : Addr} {o : HO} (h : Stands P H a o) (s : Stp P H F P' H' F') : Stands P' H' a o :=
  ⟨s.keep a o h.1 h.2, fun z => (s.own a z).elim h.2 fun q => by rw [h.1] at q; cases q⟩
def LStd (K : PySem.W.Frag) (a : Addr) (vs : List V) (P : Fp) (H : Hp) : Prop := (∃ o, Stands P H a o ∧ (o = .lst vs ∨ ∃ ob, o = .frz ob (.lst vs))) ∨ ∀ H, SqL K H a vs
def TStd (K : PySem.W.Frag) (a : Addr) (vs : List V) (P : Fp) (H : Hp) : Prop := (∃ o, Stands P H a o ∧ (o = .tup vs ∨ ∃ ob, o = .frz ob (.tup vs))) ∨ ∀ H, SqT K H a vs
section
variable {K : PySem.W.Frag} {a : Addr} {vs : List V} {P P' : Fp} {H H' F F' : Hp} {ts : List T}
theorem LStd.sq (h : LStd K a vs P H) : SqL K H a vs := by
  rcases h with ⟨o, ⟨h, _⟩, rfl | ⟨ob, rfl⟩⟩ | h
  · exact .inl (.inl h)
  · exact .inl (.inr ⟨_, h⟩)
  · exact h H
theorem TStd.sq (h : TStd K a vs P H) : SqT K H a vs := by
  rcases h with ⟨o, ⟨h, _⟩, rfl | ⟨ob, rfl⟩⟩ | h
  · exact .inl (.inl h)
  · exact .inl (.inr ⟨_, h⟩)
  · exact h H
theorem LStd.step (h : LStd K a vs P H) (s : Stp P H F P' H' F') : LStd K a vs P' H' := h.imp (fun ⟨o, h1, h2⟩ => ⟨o, h1.step s, h2⟩) id
theorem TStd.step (h : TStd K a vs P H) (s : Stp P H F P' H' F') : TStd K a vs P' H' := h.imp (fun ⟨o, h1, h2⟩ => ⟨o, h1.step s, h2⟩) id
theorem LStd.of {env : Env} {σ : L2.St} {fp : Nat → List Addr} (E : EnvR K env σ H F fp) (h : SqL K F a vs) : LStd K a vs (fpOf env fp) H := by
  have no : ∀ o, F a = some o → ¬ (fpOf env fp).own a := fun o e ⟨i, _, _, hi⟩ => by rw [E.free i a hi] at e; cases e
  rcases h with (h | ⟨ob, h⟩) | h
  · exact .inl ⟨_, ⟨E.sub _ _ h, no _ h⟩, .inl rfl⟩
  · exact .inl ⟨_, ⟨E.sub _ _ h, no _ h⟩, .inr ⟨ob, rfl⟩⟩
  · exact .inr fun H => .inr h
theorem TStd.of {env : Env} {σ : L2.St} {fp : Nat → List Addr} (E : EnvR K env σ H F fp) (h : SqT K F a vs) : TStd K a vs (fpOf env fp) H := by
  have no : ∀ o, F a = some o → ¬ (fpOf env fp).own a := fun o e ⟨i, _, _, hi⟩ => by rw [E.free i a hi] at e; cases e
  rcases h with (h | ⟨ob, h⟩) | h
  · exact .inl ⟨_, ⟨E.sub _ _ h, no _ h⟩, .inl rfl⟩
  · exact .inl ⟨_, ⟨E.sub _ _ h, no _ h⟩, .inr ⟨ob, rfl⟩⟩
  · exact .inr fun H => .inr h
theorem src_list (F0 : Hp) (d : DenAll K F0 vs ts) : SrcOk K (Itl K a) ts fun P H F => LStd K a vs P H ∧ Same F0 F where
  go := fun i P H F h _ hi => ⟨vs, vs[i]'(by rw [d.length]; exact hi), h.1.sq, List.getElem?_eq_getElem _⟩
  stop := fun i P H F h _ hi => ⟨vs, h.1.sq, by rw [d.length]; exact hi⟩
  yld := fun i P H F x H' t h _ y e => by
    obtain ⟨rfl, y⟩ := y
    obtain ⟨u, eu, du⟩ := d.get e
    have := y vs h.1.sq
    rw [eu] at this
    cases this
    exact .inl ⟨rfl, du.mono h.2⟩
  step := fun P H F P' H' F' h s => ⟨h.1.step s, h.2.trans s.fz⟩
theorem src_tup (F0 : Hp) (d : DenAll K F0 vs ts) : SrcOk K (Itt K a) ts fun P H F => TStd K a vs P H ∧ Same F0 F where
  go := fun i P H F h _ hi => ⟨vs, vs[i]'(by rw [d.length]; exact hi), h.1.sq, List.getElem?_eq_getElem _⟩
  stop := fun i P H F h _ hi => ⟨vs, h.1.sq, by rw [d.length]; exact hi⟩
  yld := fun i P H F x H' t h _ y e => by
    obtain ⟨rfl, y⟩ := y
    obtain ⟨u, eu, du⟩ := d.get e
    have := y vs h.1.sq
    rw [eu] at this
    cases this
    exact .inl ⟨rfl, du.mono h.2⟩
  step := fun P H F P' H' F' h s => ⟨h.1.step s, h.2.trans s.fz⟩
theorem src_rng (lo : Int) (n : Nat) : SrcOk K (Itr lo n) (rngT lo n) fun _ _ _ => True where
  go := fun i P H F _ _ hi => by
    show i < n
    simpa [rngT] using hi
  stop := fun i P H F _ _ hi => by
    show n ≤ i
    simpa [rngT] using hi
  yld := fun i P H F x H' t _ _ y e => by
    obtain ⟨rfl, rfl⟩ := y
    unfold rngT at e
    rw [List.getElem?_map] at e
    cases ei : (List.range n)[i]? with
    | none => rw [ei] at e; cases e
    | some k =>
      rw [ei] at e
      cases e
      obtain ⟨_, ek⟩ := List.getElem?_eq_some_iff.mp ei
      rw [List.getElem_range] at ek
      subst ek
      exact .inl ⟨rfl, .int _⟩
  step := fun _ _ _ _ _ _ _ _ => trivial
theorem src_str (s : Str) : SrcOk K (Its s) (s.cps.toList.map fun c => T.str ⟨#[c]⟩) fun _ _ _ => True where
  go := fun i P H F _ _ hi => by
    show i < s.cps.size
    simpa using hi
  stop := fun i P H F _ _ hi => by
    show s.cps.size ≤ i
    simpa using hi
  yld := fun i P H F x H' t _ _ y e => by
    obtain ⟨rfl, c, ec, rfl⟩ := y
    rw [List.getElem?_map, Array.getElem?_toList, ec] at e
    cases e
    exact .inl ⟨rfl, .str _⟩
  step := fun _ _ _ _ _ _ _ _ => trivial
theorem zipT_len : ∀ (xs ys : List T) (i : Nat), i < (zipT xs ys).length ↔ i < xs.length ∧ i < ys.length
  | [], ys, i => by cases ys <;> simp [zipT]
  | x :: xs, [], i => by simp [zipT]
  | x :: xs, y :: ys, 0 => by simp [zipT]
  | x :: xs, y :: ys, i + 1 => by simp only [zipT, List.length_cons, Nat.add_lt_add_iff_right]; exact zipT_len xs ys i
theorem zipT_get : ∀ (xs ys : List T) (i : Nat) (t : T), (zipT xs ys)[i]? = some t → ∃ x y, xs[i]? = some x ∧ ys[i]? = some y ∧ t = .tup [x, y]
  | [], ys, i, t, h => by cases ys <;> simp [zipT] at h
  | x :: xs, [], i, t, h => by simp [zipT] at h
  | x :: xs, y :: ys, 0, t, h => by simp [zipT] at h; exact ⟨x, y, by simp, by simp, h.symm⟩
  | x :: xs, y :: ys, i + 1, t, h => by
    simp only [zipT, List.getElem?_cons_succ] at h ⊢
    exact zipT_get xs ys i t h
theorem src_zip {b : Addr} {ws : List V} {us : List T} (F0 : Hp) (d : DenAll K F0 vs ts) (d' : DenAll K F0 ws us) : SrcOk K (Itz K a b) (zipT ts us) fun P H F => LStd K a vs P H ∧ LStd K b ws P H ∧ Same F0 F where
  go := fun i P H F h _ hi => by
    obtain ⟨h1, h2⟩ := (zipT_len ts us i).mp hi
    exact ⟨vs, ws, vs[i]'(by rw [d.length]; exact h1), ws[i]'(by rw [d'.length]; exact h2), h.1.sq, h.2.1.sq, List.getElem?_eq_getElem _, List.getElem?_eq_getElem _⟩
  stop := fun i P H F h _ hi => by
    refine ⟨vs, ws, h.1.sq, h.2.1.sq, ?_⟩
    rw [d.length, d'.length]
    by_cases h1 : i < ts.length
    · by_cases h2 : i < us.length
      · have := (zipT_len ts us i).mpr ⟨h1, h2⟩; omega
      · exact .inr (by omega)
    · exact .inl (by omega)
  yld := fun i P H F x H' t h _ y e => by
    obtain ⟨p, x1, x2, rfl, hp, rfl, y1, y2⟩ := y
    obtain ⟨t1, t2, e1, e2, rfl⟩ := zipT_get _ _ _ _ e
    obtain ⟨u1, eu1, du1⟩ := d.get e1
    obtain ⟨u2, eu2, du2⟩ := d'.get e2
    have z1 := y1 vs h.1.sq
    have z2 := y2 ws h.2.1.sq
    rw [eu1] at z1
    rw [eu2] at z2
    cases z1
    cases z2
    exact .inr ⟨p, _, _, hp, rfl, rfl, rfl, .cons (du1.mono h.2.2) (.cons (du2.mono h.2.2) .nil)⟩
  step := fun P H F P' H' F' h s => ⟨h.1.step s, h.2.1.step s, h.2.2.trans s.fz⟩
theorem src_zipT {b : Addr} {ws : List V} {us : List T} (F0 : Hp) (d : DenAll K F0 vs ts) (d' : DenAll K F0 ws us) : SrcOk K (RZ.ItzT K a b) (zipT ts us) fun P H F => TStd K a vs P H ∧ TStd K b ws P H ∧ Same F0 F where
  go := fun i P H F h _ hi => by
    obtain ⟨h1, h2⟩ := (zipT_len ts us i).mp hi
    exact ⟨vs, ws, vs[i]'(by rw [d.length]; exact h1), ws[i]'(by rw [d'.length]; exact h2), h.1.sq, h.2.1.sq, List.getElem?_eq_getElem _, List.getElem?_eq_getElem _⟩
  stop := fun i P H F h _ hi => by
    refine ⟨vs, ws, h.1.sq, h.2.1.sq, ?_⟩
    rw [d.length, d'.length]
    by_cases h1 : i < ts.length
    · by_cases h2 : i < us.length
      · have := (zipT_len ts us i).mpr ⟨h1, h2⟩; omega
      · exact .inr (by omega)
    · exact .inl (by omega)
  yld := fun i P H F x H' t h _ y e => by
    obtain ⟨p, x1, x2, rfl, hp, rfl, y1, y2⟩ := y
    obtain ⟨t1, t2, e1, e2, rfl⟩ := zipT_get _ _ _ _ e
    obtain ⟨u1, eu1, du1⟩ := d.get e1
    obtain ⟨u2, eu2, du2⟩ := d'.get e2
    have z1 := y1 vs h.1.sq
    have z2 := y2 ws h.2.1.sq
    rw [eu1] at z1
    rw [eu2] at z2
    cases z1
    cases z2
    exact .inr ⟨p, _, _, hp, rfl, rfl, rfl, .cons (du1.mono h.2.2) (.cons (du2.mono h.2.2) .nil)⟩
  step := fun P H F P' H' F' h s => ⟨h.1.step s, h.2.1.step s, h.2.2.trans s.fz⟩
/-- an item comes: the world behind it -/
theorem Yd.to {env : Env} {σ : L2.St} {fp : Nat → List Addr} {x : V} {t : T} (E : EnvR K env σ H F fp) (y : Yd K H F x H' t) : ∃ F', Same F F' ∧ EnvR K env σ H' F' fp ∧ Stp (fpOf env fp) H F (fpOf env fp) H' F' ∧ Den K F' x t := by
  rcases y with ⟨rfl, d⟩ | ⟨p, vs, ts, hp, rfl, rfl, rfl, d⟩
  · exact ⟨F, fun _ _ h => h, E, Stp.refl, d⟩
  · have hF := E.freeF hp
    have sF : Same F (upd F p (.tup vs)) := fun b x e => by rw [upd_ne (ne_of_none e hF)]; exact e
    exact ⟨_, sF, E.allocF hp, Stp.refl.allocF hp hF, .tup (.inl (.inl upd_same)) (d.mono sF)⟩

/-! # locks -/
theorem EnvR.lock {env : Env} {σ : L2.St} {fp : Nat → List Addr} (E : EnvR K env σ H F fp) (lk : Option Nat) : EnvR K (lockE env lk) σ H F fp ∧ (∀ a, (fpOf (lockE env lk) fp).own a → (fpOf env fp).own a) ∧ ∀ a, (fpOf (lockE env lk) fp).all a ↔ (fpOf env fp).all a := by
  cases lk with
  | none => exact ⟨E, fun _ h => h, fun _ => Iff.rfl⟩
  | some i =>
    simp only [lockE]
    split
    · rename_i o ei
      refine ⟨⟨fun j iv ej => ?_, fun j hj => ?_, E.dis, E.free, E.sub, by simpa using E.len⟩, fun a ⟨j, o', ej, hj⟩ => ?_, fun _ => Iff.rfl⟩
      · rcases get_set ej with ⟨rfl, h3, _⟩ | ⟨h3, h4⟩
        · cases h3
          obtain ⟨v, h1, h2⟩ := E.slot _ _ ei
          refine ⟨v, h1, ?_⟩
          generalize fp _ = l2 at h2 ⊢
          cases h2 with
          | own h2 => cases h2 with
            | lst q1 q2 => exact .lck (.lst q1 q2)
        · exact E.slot j iv h4
      · by_cases hji : i = j
        · subst hji
          have hi : i < env.length := (List.getElem?_eq_some_iff.mp ei).1
          exact absurd (by rw [List.getElem?_set_self hi]) (hj (.lck (.lst o)))
        · exact E.out j (get_set_none hj hji)
      · rcases get_set ej with ⟨_, h3, _⟩ | ⟨_, h4⟩
        · cases h3
        · exact ⟨j, o', h4, hj⟩
    · exact ⟨E, fun _ h => h, fun _ => Iff.rfl⟩
/-- unlocking -/
theorem EnvR.unlock {env : Env} {σ : L2.St} {fp : Nat → List Addr} (E : EnvR K env σ H F fp) (lk : Option Nat) : EnvR K (unlockE env lk) σ H F fp ∧
    (∀ a, (fpOf (unlockE env lk) fp).own a → (fpOf env fp).own a ∨ ∃ i, lk = some i ∧ (fpOf env fp).lk i a) ∧ ∀ i a, (fpOf (unlockE env lk) fp).lk i a → (fpOf env fp).lk i a ∧ (lk ≠ some i ∨ ∃ o, env[i]? = some (some (.lck (.dic o)))) := by
  cases lk with
  | none => exact ⟨E, fun _ h => .inl h, fun _ _ h => ⟨h, .inl (by simp)⟩⟩
  | some i =>
    simp only [unlockE]
    split
    · rename_i o ei
      refine ⟨⟨fun j iv ej => ?_, fun j hj => ?_, E.dis, E.free, E.sub, by simpa using E.len⟩, fun a ⟨j, o', ej, hj⟩ => ?_, fun j a ⟨o', ej, hj⟩ => ?_⟩
      · rcases get_set ej with ⟨rfl, h3, _⟩ | ⟨h3, h4⟩
        · cases h3
          obtain ⟨v, h1, h2⟩ := E.slot _ _ ei
          refine ⟨v, h1, ?_⟩
          generalize fp _ = l2 at h2 ⊢
          cases h2 with
          | lck h2 => cases h2 with
            | lst q1 q2 => exact .own (.lst q1 q2)
        · exact E.slot j iv h4
      · by_cases hji : i = j
        · subst hji
          have hi : i < env.length := (List.getElem?_eq_some_iff.mp ei).1
          exact absurd (by rw [List.getElem?_set_self hi]) (hj (.own (.lst o)))
        · exact E.out j (get_set_none hj hji)
      · rcases get_set ej with ⟨rfl, h3, _⟩ | ⟨_, h4⟩
        · exact .inr ⟨_, rfl, .lst o, ei, hj⟩
        · exact .inl ⟨j, o', h4, hj⟩
      · rcases get_set ej with ⟨_, h3, _⟩ | ⟨h3, h4⟩
        · cases h3
        · exact ⟨⟨o', h4, hj⟩, .inl (by simp only [ne_eq, Option.some.injEq]; exact h3)⟩
    · rename_i hno
      refine ⟨E, fun _ h => .inl h, fun j a ⟨o', ej, hj⟩ => ⟨⟨o', ej, hj⟩, ?_⟩⟩
      by_cases e : some i = some j
      · cases e
        cases o' with
        | lst o' => exact absurd ej (hno o')
        | dic o' => exact .inr ⟨o', ej⟩
      · exact .inl e
theorem EnvR.lockLk {env : Env} {σ : L2.St} {fp : Nat → List Addr} (E : EnvR K env σ H F fp) (lk : Option Nat) : ∀ i a, (fpOf (lockE env lk) fp).lk i a → (fpOf env fp).lk i a ∨ (lk = some i ∧ (fpOf env fp).own a) := by
  cases lk with
  | none => exact fun _ _ h => .inl h
  | some j =>
    simp only [lockE]
    split
    · rename_i o ei
      rintro i a ⟨o', ej, hj⟩
      rcases get_set ej with ⟨rfl, h3, _⟩ | ⟨_, h4⟩
      · exact .inr ⟨rfl, _, .lst o, ei, hj⟩
      · exact .inl ⟨o', h4, hj⟩
    · exact fun _ _ h => .inl h
/-- a locked stretch: what was owned ahead may be owned behind -/
theorem Stp.locked {env env' : Env} {σ σ' : L2.St} {fp fp' : Nat → List Addr} {lk : Option Nat} (E : EnvR K env σ H F fp) (E' : EnvR K env' σ' H' F' fp') (hlk : ∀ i, lk = some i → ∃ o, env[i]? = some (some (.own o)))
    (s : Stp (fpOf (lockE env lk) fp) H F (fpOf env' fp') H' F') : Stp (fpOf env fp) H F (fpOf (unlockE env' lk) fp') H' F' := by
  obtain ⟨_, o1, a1⟩ := E.lock lk
  obtain ⟨_, o2, l2⟩ := E'.unlock lk
  have l1 := E.lockLk lk
  refine ⟨fun a o h hn => s.keep a o h fun z => hn (o1 a z), s.fz, fun a h => (s.nfz a h).imp id (Or.imp (o1 a) id), fun a h => ?_, fun a h => ?_, fun i a h => ?_⟩
  · rcases o2 a h with h | ⟨i, hi, h⟩
    · exact (s.own a h).imp (o1 a) id
    · rcases l1 i a (s.lk i a h) with ⟨o', q1, q2⟩ | ⟨_, q⟩
      · obtain ⟨o, q3⟩ := hlk i hi
        rw [q3] at q1
        cases q1
      · exact .inl q
  · have h' : (fpOf env' fp').all a := h
    exact (s.all a h').imp (fun z => (a1 a).mp z) id
  · obtain ⟨h1, h2⟩ := l2 i a h
    rcases l1 i a (s.lk i a h1) with q | ⟨q, _⟩
    · exact q
    · rcases h2 with h2 | ⟨od, hod⟩
      · exact absurd q h2
      · obtain ⟨ow, how⟩ := hlk i q
        obtain ⟨o3, g1, g2⟩ := s.lk i a h1
        obtain ⟨o4, g3, g4⟩ := h1
        rw [q] at g1 s
        cases ow with
        | dic ow => simp only [lockE, how] at g1; cases g1
        | lst ow =>
          obtain ⟨v, k1, k2⟩ := E.slot i _ how
          obtain ⟨v', k3, k4⟩ := E'.slot i _ hod
          have hi : i < env.length := (List.getElem?_eq_some_iff.mp how).1
          have no : ¬ (fpOf (lockE env (some i)) fp).own a := fun ⟨j, o5, ej, hj⟩ => by
            have := E.dis j i a hj g2
            subst this
            simp only [lockE, how] at ej
            rw [List.getElem?_set_self hi] at ej
            cases ej
          generalize hl : fp i = li at k2 g2
          generalize hl' : fp' i = li' at k4 g4
          cases k2 with
          | own k2 => cases k2 with
            | lst k5 k6 =>
              cases k4 with
              | lck k4 => cases k4 with
                | dic k7 k8 =>
                  simp at g2 g4
                  subst g2
                  have := s.keep _ _ k5 no
                  rw [← g4, this] at k7
                  cases k7
end
end G
namespace G
open PySem PySem.Spec PyProof.Rows L2

/-! # slots set, slots wiped -/
section
variable {K : PySem.W.Frag} {env env' : Env} {σ σ' : L2.St} {H F : Hp} {fp : Nat → List Addr}
theorem EnvR.setIv (E : EnvR K env σ H F fp) {i : Nat} {iv : Iv} {v : V} {l : List Addr} (hi : i < env.length) (h : IvR K H F v iv l) (hl : ∀ a ∈ l, F a = none ∧ ∀ j, j ≠ i → a ∉ fp j) :
    EnvR K (env.set i (some iv)) (σ.set i (some v)) H F (fun j => if j = i then l else fp j) := by
  refine ⟨fun j iv' ej => ?_, fun j hj => ?_, fun j k a ha hb => ?_, fun j a ha => ?_, E.sub, by simpa using E.len⟩
  · rcases get_set ej with ⟨rfl, h3, _⟩ | ⟨h3, h4⟩
    · cases h3
      refine ⟨v, by rw [List.getElem?_set_self (by rw [← E.len]; exact hi)], ?_⟩
      rw [if_pos rfl]
      exact h
    · obtain ⟨w, g1, g2⟩ := E.slot j iv' h4
      refine ⟨w, by rw [List.getElem?_set_ne h3]; exact g1, ?_⟩
      rw [if_neg (Ne.symm h3)]
      exact g2
  · by_cases hji : j = i
    · subst hji
      exact absurd (by rw [List.getElem?_set_self hi]) (hj iv)
    · show (if j = i then l else fp j) = []
      rw [if_neg hji]
      exact E.out j (get_set_none hj (Ne.symm hji))
  · have ha : a ∈ (if j = i then l else fp j) := ha
    have hb : a ∈ (if k = i then l else fp k) := hb
    split at ha
    · rename_i h1
      split at hb
      · rename_i h2; rw [h1, h2]
      · rename_i h2; exact absurd hb ((hl a ha).2 k h2)
    · rename_i h1
      split at hb
      · exact absurd ha ((hl a hb).2 j h1)
      · exact E.dis j k a ha hb
  · have ha : a ∈ (if j = i then l else fp j) := ha
    split at ha
    · exact (hl a ha).1
    · exact E.free j a ha
/-- a frozen value stored: less is owned -/
theorem EnvR.setVal (E : EnvR K env σ H F fp) {i : Nat} {t : T} {v : V} (hi : i < env.length) (h : Den K F v t) :
    EnvR K (env.set i (some (.val t))) (σ.set i (some v)) H F (fun j => if j = i then [] else fp j) ∧ Stp (fpOf env fp) H F (fpOf (env.set i (some (.val t))) fun j => if j = i then [] else fp j) H F := by
  refine ⟨E.setIv hi (.val h) fun a ha => by simp at ha, fun _ _ h _ => h, fun _ _ h => h, fun _ h => .inl h, fun a ⟨j, o, ej, hj⟩ => ?_, fun a ⟨j, hj⟩ => ?_, fun j a ⟨o, ej, hj⟩ => ?_⟩
  · have hj : a ∈ (if j = i then [] else fp j) := hj
    split at hj
    · simp at hj
    · rename_i hji
      rcases get_set ej with ⟨h3, _⟩ | ⟨_, h4⟩
      · exact absurd h3.symm hji
      · exact .inl ⟨j, o, h4, hj⟩
  · have hj : a ∈ (if j = i then [] else fp j) := hj
    split at hj
    · simp at hj
    · exact .inl ⟨j, hj⟩
  · have hj : a ∈ (if j = i then [] else fp j) := hj
    split at hj
    · simp at hj
    · rename_i hji
      rcases get_set ej with ⟨h3, _⟩ | ⟨_, h4⟩
      · exact absurd h3.symm hji
      · exact ⟨o, h4, hj⟩
/-- only these slots were set -/
structure SetOnly (is : List Nat) (fx : Nat → Bool) (σ σ' : L2.St) : Prop where
  out : ∀ j, j ∉ is → σ'[j]? = σ[j]?
  fix : ∀ j, fx j = true → σ'[j]? = σ[j]?
  len : σ'.length = σ.length
def gNames : List Nat → TGs
  | [] => gNil
  | i :: is => gCons (gName i) (gNames is)
def gTgt (K : PySem.W.Frag) : Tgt → TG
  | .name i => gName i
  | .tup is => gTup K is.length (gNames is)
def tgIs : Tgt → List Nat
  | .name i => [i]
  | .tup is => is
theorem bindAll_ok {fx : Nat → Bool} : ∀ {is : List Nat} {ts : List T} {vs : List V} {env : Env} {σ : L2.St} {fp : Nat → List Addr} {Q : L2.St → Hp → Prop}, EnvR K env σ H F fp → DenAll K F vs ts → bindAll fx is ts env = some env' →
    (∀ σ' fp', EnvR K env' σ' H F fp' → Stp (fpOf env fp) H F (fpOf env' fp') H F → SetOnly is fx σ σ' → Q σ' H) → gNames is vs σ H Q
  | [], [], vs, env, σ, fp, Q, E, d, e, k => by
    cases d
    cases e
    exact ⟨rfl, k σ fp E Stp.refl ⟨fun _ _ => rfl, fun _ _ => rfl, rfl⟩⟩
  | i :: is, t :: ts, vs, env, σ, fp, Q, E, d, e, k => by
    cases d with
    | @cons v vs _ _ d ds =>
      simp only [bindAll] at e
      split at e
      · rename_i hi
        obtain ⟨E1, s1⟩ := E.setVal hi.1 d
        refine ⟨v, vs, rfl, ?_⟩
        refine bindAll_ok E1 ds e fun σ' fp' E' s' so => k σ' fp' E' (s1.trans s') ⟨fun j hj => ?_, fun j hj => ?_, ?_⟩
        · rw [so.out j fun h => hj (List.mem_cons_of_mem _ h), List.getElem?_set_ne]
          intro h; exact hj (by rw [h]; exact List.mem_cons_self)
        · rw [so.fix j hj, List.getElem?_set_ne]
          intro h; rw [h] at hi; rw [hi.2] at hj; cases hj
        · rw [so.len, List.length_set]
      · cases e
  | [], _ :: _, _, _, _, _, _, _, _, e, _ => by simp [bindAll] at e
  | _ :: _, [], _, _, _, _, _, _, _, e, _ => by simp [bindAll] at e
theorem bindAll_len {fx : Nat → Bool} : ∀ {is : List Nat} {ts : List T} {env env' : Env}, bindAll fx is ts env = some env' → ts.length = is.length
  | [], [], _, _, _ => rfl
  | i :: is, t :: ts, env, env', e => by
    simp only [bindAll] at e
    split at e
    · rw [List.length_cons, List.length_cons, bindAll_len e]
    · cases e
  | [], _ :: _, _, _, e => by simp [bindAll] at e
  | _ :: _, [], _, _, e => by simp [bindAll] at e
theorem tgt_ok {fx : Nat → Bool} {tg : Tgt} {t : T} {v : V} {Q : L2.St → Hp → Prop} (E : EnvR K env σ H F fp) (d : Den K F v t) (e : bindT fx tg t env = some env')
    (k : ∀ σ' fp', EnvR K env' σ' H F fp' → Stp (fpOf env fp) H F (fpOf env' fp') H F → SetOnly (tgIs tg) fx σ σ' → Q σ' H) : gTgt K tg v σ H Q := by
  cases tg with
  | name i =>
    obtain ⟨_, _, h1, h2⟩ := bindAll_ok (Q := Q) E (DenAll.one d) e k
    cases h1
    exact h2.2
  | tup is =>
    cases t with
    | tup ts =>
      simp only [bindT] at e
      obtain ⟨a, vs, rfl, ha, ds⟩ := d.tup'
      exact ⟨a, vs, rfl, same_t E.sub ha, by rw [ds.length]; exact bindAll_len e, bindAll_ok E ds e k⟩
    | _ => simp [bindT] at e
theorem wipe_get {σ : L2.St} {i : Nat} : ∀ {vs : List Nat}, (wipe σ vs)[i]? = if i ∈ vs then (if i < σ.length then some none else none) else σ[i]?
  | [] => by simp [wipe]
  | v :: vs => by
    unfold wipe
    rw [List.getElem?_set, wipe_length, wipe_get (vs := vs)]
    by_cases h : v = i
    · subst h; simp
    · rw [if_neg h]
      have : i ∈ v :: vs ↔ i ∈ vs := by simp [Ne.symm h]
      simp only [this]
theorem wipe_congr {vs : List Nat} (h : ∀ j, j ∉ vs → σ'[j]? = σ[j]?) (hl : σ'.length = σ.length) : wipe σ' vs = wipe σ vs := by
  apply List.ext_getElem?
  intro i
  rw [wipe_get, wipe_get, hl]
  split
  · rfl
  · exact h i (by assumption)
theorem wipe_wipe {vs : List Nat} : wipe (wipe σ vs) vs = wipe σ vs := wipe_congr (fun j hj => by rw [wipe_get, if_neg hj]) (wipe_length _ _)
theorem wipeE_eq {env : Env} : ∀ {vs : List Nat}, (wipeE env vs).length = env.length
  | [] => rfl
  | v :: vs => by unfold wipeE; rw [List.length_set, wipeE_eq]
theorem wipeE_get {env : Env} {i : Nat} : ∀ {vs : List Nat}, (wipeE env vs)[i]? = if i ∈ vs then (if i < env.length then some none else none) else env[i]?
  | [] => by simp [wipeE]
  | v :: vs => by
    unfold wipeE
    rw [List.getElem?_set, wipeE_eq, wipeE_get (vs := vs)]
    by_cases h : v = i
    · subst h; simp
    · rw [if_neg h]
      have : i ∈ v :: vs ↔ i ∈ vs := by simp [Ne.symm h]
      simp only [this]
theorem wipeE_some {env : Env} {i : Nat} {vs : List Nat} {iv : Iv} (h : (wipeE env vs)[i]? = some (some iv)) : i ∉ vs ∧ env[i]? = some (some iv) := by
  rw [wipeE_get] at h
  split at h
  · split at h <;> cases h
  · exact ⟨by assumption, h⟩
/-- wiping -/
theorem EnvR.wipe (E : EnvR K env σ H F fp) (vs : List Nat) : EnvR K (wipeE env vs) (L2.wipe σ vs) H F (fun j => if j ∈ vs then [] else fp j) ∧ Stp (fpOf env fp) H F (fpOf (wipeE env vs) fun j => if j ∈ vs then [] else fp j) H F := by
  refine ⟨⟨fun j iv ej => ?_, fun j hj => ?_, fun j k a ha hb => ?_, fun j a ha => ?_, E.sub, by rw [wipeE_eq, wipe_length]; exact E.len⟩, fun _ _ h _ => h, fun _ _ h => h, fun _ h => .inl h, fun a ⟨j, o, ej, hj⟩ => ?_, fun a ⟨j, hj⟩ => ?_, fun j a ⟨o, ej, hj⟩ => ?_⟩
  · obtain ⟨h1, h2⟩ := wipeE_some ej
    obtain ⟨v, g1, g2⟩ := E.slot j iv h2
    exact ⟨v, by rw [wipe_get, if_neg h1]; exact g1, by rw [if_neg h1]; exact g2⟩
  · show (if j ∈ vs then [] else fp j) = []
    split
    · rfl
    · rename_i h1
      refine E.out j fun iv e => hj iv ?_
      rw [wipeE_get, if_neg h1]; exact e
  · have ha : a ∈ (if j ∈ vs then [] else fp j) := ha
    have hb : a ∈ (if k ∈ vs then [] else fp k) := hb
    split at ha
    · simp at ha
    · split at hb
      · simp at hb
      · exact E.dis j k a ha hb
  · have ha : a ∈ (if j ∈ vs then [] else fp j) := ha
    split at ha
    · simp at ha
    · exact E.free j a ha
  · have hj : a ∈ (if j ∈ vs then [] else fp j) := hj
    split at hj
    · simp at hj
    · exact .inl ⟨j, o, (wipeE_some ej).2, hj⟩
  · have hj : a ∈ (if j ∈ vs then [] else fp j) := hj
    split at hj
    · simp at hj
    · exact .inl ⟨j, hj⟩
  · have hj : a ∈ (if j ∈ vs then [] else fp j) := hj
    split at hj
    · simp at hj
    · exact ⟨o, (wipeE_some ej).2, hj⟩
/-- wiped slots may hold anything -/
theorem EnvR.unwipe {vs : List Nat} (E : EnvR K (wipeE env vs) (L2.wipe σ vs) H F fp) : EnvR K (wipeE env vs) σ H F fp := by
  refine ⟨fun j iv ej => ?_, E.out, E.dis, E.free, E.sub, by rw [E.len, wipe_length]⟩
  obtain ⟨v, g1, g2⟩ := E.slot j iv ej
  rw [wipe_get, if_neg (wipeE_some ej).1] at g1
  exact ⟨v, g1, g2⟩
/-- a thing apart is written -/
theorem EnvR.updTmp (E : EnvR K env σ H F fp) {D : Addr} {o : HO} (hD : ¬ (fpOf env fp).all D) (hF : F D = none) : EnvR K env σ (upd H D o) F fp := by
  have ne : ∀ i a, a ∈ fp i → a ≠ D := fun i a ha e => hD ⟨i, e ▸ ha⟩
  refine ⟨fun i iv e => ?_, E.out, E.dis, E.free, fun b x e => ?_, E.len⟩
  · obtain ⟨v, h1, h2⟩ := E.slot i iv e
    exact ⟨v, h1, h2.keep (fun a ha => upd_ne (ne i a ha)) (fun _ _ h => h)⟩
  · rw [upd_ne (ne_of_none e hF)]
    exact E.sub b x e
theorem Stp.updNew {P P' : Fp} {H' F' : Hp} (s : Stp P H F P' H' F') {D : Addr} {o : HO} (hD : H D = none) : Stp P H F P' (upd H' D o) F' :=
  ⟨fun a x e hn => by rw [upd_ne (ne_of_none e hD)]; exact s.keep a x e hn, s.fz, s.nfz, s.own, s.all, s.lk⟩
end

/-! # comprehensions -/
def W0 : WX := fun _ _ _ _ => False
def tSrc (K : PySem.W.Frag) (W : WX) (m : Env → Out (List T × Option Nat)) : TI := fun σ H R => ∃ env F fp, EnvR K env σ H F fp ∧
  (m env).asks K W σ H F (fpOf env fp) fun it env' H' F' fp' => ∀ J Std, SrcOk K J it.1 Std → Std (fpOf (lockE env' it.2) fp') H' F' → (∀ i, it.2 = some i → ∃ o, env'[i]? = some (some (.own o))) → R J H'
def lcStep (tg : Tgt) (cond : Env → Out Bool) (elt : Env → Out R) (vs : List Nat) : T → Env → Out (Option T) := fun t e => match bindT (fun _ => false) tg t (wipeE e vs) with
        | none => .stuck
        | some e2 => noexc ((cond e2).bind fun k e3 => if k then (elt e3).bind fun r e4 => ofO ((esc e4 r).map some) e4 else .ok none e3)
def mLc (src : Env → Out (List T × Option Nat)) (tg : Tgt) (cond : Env → Out Bool) (elt : Env → Out R) (vs : List Nat) : Env → Out R := fun env => (src env).bind fun it e1 =>
      (lcLoop (lcStep tg cond elt vs) it.1 [] (lockE e1 it.2)).bind fun acc e5 => .ok (.new (.lst acc)) (unlockE (wipeE e5 vs) it.2)
theorem noexc_ok {α : Type} {o : Out α} {a : α} {e : Env} (h : noexc o = .ok a e) : o = .ok a e := by
  cases o with
  | ok b e' => exact h
  | exc _ _ => cases h
  | stuck => cases h
theorem lc_imp {K : PySem.W.Frag} {W : WX} {src : Env → Out (List T × Option Nat)} {tg : Tgt} {cond : Env → Out Bool} {elt : Env → Out R} {vs : List Nat} {σ : L2.St} {H : Hp} {Q : VK} (htg : ∀ i ∈ tgIs tg, i ∈ vs)
    (h : tE K W (mLc src tg cond elt vs) σ H Q) : tLc (tSrc K W src) (gTgt K tg) (G.tB K W0 cond) (tE K W0 elt) vs σ H Q := by
  obtain ⟨env, F, fp, E, q⟩ := h
  refine ⟨env, F, fp, E, ?_⟩
  unfold mLc at q
  cases es : src env with
  | stuck => rw [es] at q; exact q
  | exc x env' => rw [es] at q; exact q
  | ok it e1 =>
    rw [es] at q
    replace q : ((lcLoop (lcStep tg cond elt vs) it.1 [] (lockE e1 it.2)).bind fun acc e5 => Out.ok (R.new (.lst acc)) (unlockE (wipeE e5 vs) it.2)).asks K W σ H F (fpOf env fp) (Ask K σ H (fpOf env fp) Q) := q
    intro H1 F1 fp1 E1 s1 J Std ok std hlk D hD
    obtain ⟨E2, o2, a2⟩ := E1.lock it.2
    have F1D : F1 D = none := E1.freeF hD
    -- the invariant at the i-th turn
    refine ⟨fun i m H' => m = it.1.length - i ∧ i ≤ it.1.length ∧ ∃ e F' fp' accV acc, EnvR K (wipeE e vs) (L2.wipe σ vs) H' F' fp' ∧ Stp (fpOf (lockE e1 it.2) fp1) H1 F1 (fpOf (wipeE e vs) fp') H' F' ∧ H' D = some (.lst accV) ∧ DenAll K F' accV acc ∧ F' D = none ∧
      ¬ (fpOf (wipeE e vs) fp').all D ∧ ((lcLoop (lcStep tg cond elt vs) (it.1.drop i) acc e).bind fun acc e5 => Out.ok (R.new (.lst acc)) (unlockE (wipeE e5 vs) it.2)).asks K W σ H F (fpOf env fp) (Ask K σ H (fpOf env fp) Q), ⟨it.1.length, ?_⟩, ?_⟩
    · obtain ⟨E3, s3⟩ := (E2.alloc (o := .lst []) hD).wipe vs
      refine ⟨rfl, Nat.zero_le _, lockE e1 it.2, F1, _, [], [], E3, (Stp.refl.alloc hD).trans s3, upd_same, .nil, F1D, fun ⟨j, hj⟩ => ?_, q⟩
      have hj : D ∈ (if j ∈ vs then [] else fp1 j) := hj
      split at hj
      · simp at hj
      · exact E1.here j D hj hD
    · rintro i m H' ⟨rfl, hi, e, F', fp', accV, acc, E3, s3, hDa, dacc, hFD, hnD, qi⟩
      have std3 := ok.step _ _ _ _ _ _ std s3
      by_cases hlt : i < it.1.length
      · -- a turn
        refine .inr ⟨ok.go i _ _ _ std3 E3.sub hlt, fun H'' => ∃ e F' fp' accV acc, EnvR K (wipeE e vs) (L2.wipe σ vs) H'' F' fp' ∧ Stp (fpOf (lockE e1 it.2) fp1) H1 F1 (fpOf (wipeE e vs) fp') H'' F' ∧ H'' D = some (.lst accV) ∧ DenAll K F' accV acc ∧ F' D = none ∧
          ¬ (fpOf (wipeE e vs) fp').all D ∧ ((lcLoop (lcStep tg cond elt vs) (it.1.drop (i + 1)) acc e).bind fun acc e5 => Out.ok (R.new (.lst acc)) (unlockE (wipeE e5 vs) it.2)).asks K W σ H F (fpOf env fp) (Ask K σ H (fpOf env fp) Q), fun H'' hN => ⟨it.1.length - (i + 1), by omega, rfl, hlt, hN⟩, fun x H4 y => ?_⟩
        have ed : it.1.drop i = it.1[i] :: it.1.drop (i + 1) := List.drop_eq_getElem_cons hlt
        rw [ed] at qi
        have yd := ok.yld i _ _ _ x H4 it.1[i] std3 E3.sub y (List.getElem?_eq_getElem hlt)
        obtain ⟨F4, sF, E4, s4, d4⟩ := yd.to E3
        -- the step's outcome
        cases hst : lcStep tg cond elt vs it.1[i] e with
        | stuck => simp only [lcLoop, hst] at qi; exact qi.elim
        | exc x' e' =>
          unfold lcStep at hst
          split at hst
          · cases hst
          · rename_i e2 _
            cases hz : ((cond e2).bind fun k e3 => if k then (elt e3).bind fun r e4 => ofO ((esc e4 r).map some) e4 else .ok none e3) <;> rw [hz] at hst <;> cases hst
        | ok o e5 =>
          have qi' : ((match o with
            | some x => if acc.length < sizeLine then lcLoop (lcStep tg cond elt vs) (it.1.drop (i + 1)) (acc ++ [x]) e5 else .stuck
            | none => lcLoop (lcStep tg cond elt vs) (it.1.drop (i + 1)) acc e5).bind fun acc e5 => Out.ok (R.new (.lst acc)) (unlockE (wipeE e5 vs) it.2)).asks K W σ H F (fpOf env fp) (Ask K σ H (fpOf env fp) Q) := by
            have z := qi
            simp only [lcLoop, hst] at z
            exact z
          clear qi
          unfold lcStep at hst
          cases hb : bindT (fun _ => false) tg it.1[i] (wipeE e vs) with
          | none => rw [hb] at hst; cases hst
          | some e2 =>
            rw [hb] at hst
            obtain ⟨k, e3, hc, hst⟩ := bind_ok (noexc_ok hst)
            refine tgt_ok E4 d4 hb fun σ2 fp2 E5 s5 so => ?_
            have hw : L2.wipe σ2 vs = L2.wipe σ vs := by
              rw [wipe_congr (σ := L2.wipe σ vs) (fun j hj => so.out j fun z => hj (htg j z)) so.len, wipe_wipe]
            refine ⟨hw, e2, F4, fp2, E5, ?_⟩
            rw [hc]
            intro H6 F6 fp6 E6 s6
            have s36 : Stp (fpOf (wipeE e vs) fp') H' F' (fpOf e3 fp6) H6 F6 := (s4.trans s5).trans s6
            have s16 := s3.trans s36
            have hD0 : H' D ≠ none := by rw [hDa]; simp
            obtain ⟨g1, g2, g3⟩ := s36.fresh hD0 hnD hFD
            cases k with
            | false =>
              rw [if_neg Bool.false_ne_true] at hst
              refine iteF ?_
              cases hst
              obtain ⟨E7, s7⟩ := E6.wipe vs
              rw [hw] at E7
              refine ⟨_, F6, _, accV, acc, E7, s16.trans s7, by rw [g1]; exact hDa, dacc.mono s36.fz, g2, fun ⟨j, hj⟩ => ?_, qi'⟩
              have hj : D ∈ (if j ∈ vs then [] else fp6 j) := hj
              split at hj
              · simp at hj
              · exact g3 ⟨j, hj⟩
            | true =>
              rw [if_pos rfl] at hst
              refine iteT ?_
              obtain ⟨r, e4, he, hst⟩ := bind_ok hst
              obtain ⟨hesc, he5⟩ := ofO_ok hst
              subst he5
              obtain ⟨t, het, rfl⟩ := Option.map_eq_some_iff.mp hesc
              refine ⟨e3, F6, fp6, E6, ?_⟩
              rw [he]
              intro H7 F7 fp7 E7 s7 y7 l rr tm
              obtain ⟨F8, sF8, d8, E8, s8, n8⟩ := esc_ok rr E7 tm s7 het
              have s38 := s36.trans s8
              obtain ⟨k1, k2, k3⟩ := s38.fresh hD0 hnD hFD
              simp only at qi'
              split at qi'
              · rename_i hz
                have hD8 : H7 D = some (.lst accV) := by rw [k1]; exact hDa
                have dacc8 := dacc.mono s38.fz
                refine ⟨accV, hD8, by rw [dacc8.length]; exact hz, ?_⟩
                obtain ⟨E9, s9⟩ := (E8.updTmp (o := .lst (accV ++ [y7])) k3 k2).wipe vs
                rw [hw] at E9
                refine ⟨e4, F8, _, accV ++ [y7], acc ++ [t], E9, ((s3.trans s38).updNew hD).trans s9, upd_same, dacc8.append (.one d8), k2, fun ⟨j, hj⟩ => ?_, qi'⟩
                have hj : D ∈ (if j ∈ vs then [] else fp7 j) := hj
                split at hj
                · simp at hj
                · exact k3 ⟨j, hj⟩
              · exact qi'.elim
      · -- the end
        have ei : i = it.1.length := by omega
        subst ei
        refine .inl ⟨ok.stop _ _ _ _ std3 E3.sub (Nat.le_refl _), ?_⟩
        rw [List.drop_length] at qi
        have qi : (Out.ok (R.new (.lst acc)) (unlockE (wipeE e vs) it.2)).asks K W σ H F (fpOf env fp) (Ask K σ H (fpOf env fp) Q) := qi
        have E4 := E3.unwipe
        have s4 := Stp.locked E1 E4 hlk s3
        refine qi H' F' fp' (E4.unlock it.2).1 (s1.trans s4) (.ref D) [D] (.new (.lst hDa dacc)) fun a ha => ?_
        simp at ha
        subst ha
        exact ⟨hFD, hnD, s1.back hD⟩
end G
namespace G
open PySem PySem.Spec PyProof.Rows L2
section
variable {X : Cx} {W : WX} {a b tg : Expr} {ma mb : Env → Out R} {pos p : Pos}

/-- a list, a tuple or a text, whichever comes -/
def iAny (K : PySem.W.Frag) (tl : TE) : TI := fun σ H R => tl σ H fun x H1 => (∃ a, x = .ref a ∧ (∃ xs, SqL K H1 a xs) ∧ R (Itl K a) H1) ∨ (∃ a, x = .ref a ∧ (∃ xs, SqT K H1 a xs) ∧ R (Itt K a) H1) ∨ (∃ z, x = .str z ∧ R (Its z) H1) ∨ ∃ d o kvs, x = .ref d ∧ H1 d = some (.frz o (.dK kvs)) ∧ R (Itk d o kvs) H1
theorem pi_any {tl : TE} (hl : PE X a tl) : PI X tg a (iAny X.K tl) := by
  constructor
  intro pins s σ H R I h
  refine thn (hl.run pins s σ H _ I h) ?_
  rintro v s1 ⟨x, H1, I1, r1, hx⟩
  have new : ∀ (b : Addr), b ∈ [s1.heap.objs.size] → FpOk X pins H1 b := fun b hb => by
    simp only [List.mem_singleton] at hb
    rw [hb]
    exact I1.fpOk (Nat.le_refl _) (I1.hok.fresh (Nat.le_refl _))
  rcases hx with ⟨q, rfl, ⟨xs, hq⟩, k⟩ | ⟨q, rfl, ⟨xs, hq⟩, k⟩ | ⟨z, rfl, k⟩ | ⟨d, o, kvs, rfl, hd, k⟩
  · cases r1
    obtain ⟨us, ru, pl, _⟩ := I1.list hq
    exact wpAny_pyIter_list pl.isList ⟨_, _, _, _, H1, rfl, I1.kept (t' := s1.toks) fun c u e => Heap.get?_push_of_some _ e, turn_list q _, ⟨_, Heap.get?_push_size _ rfl, rfl, rfl⟩, new, k⟩
  · cases r1
    obtain ⟨us, ru, pl, _⟩ := I1.tuple hq
    have pt : s1.heap.IsTuple q us.toArray := pl
    exact wpAny_pyIter_tuple pt ⟨_, _, _, _, H1, rfl, I1.kept (t' := s1.toks) fun c u e => Heap.get?_push_of_some _ e, turn_tuple q _, ⟨_, Heap.get?_push_size _ rfl, rfl, rfl⟩, new, k⟩
  · obtain ⟨t, rfl⟩ := r1
    cases hz : z.cps.all (· < 128) with
    | false => exact wpAny_pyIter_wide hz (pi_one (tk := s1.toks) I1 _ (turn_str _ z t "str_iterator" (Or.inr rfl)) ⟨_, Heap.get?_push_size _ rfl, rfl, rfl⟩ k)
    | true => exact wpAny_pyIter_ascii hz (pi_one (tk := s1.toks) I1 _ (turn_str _ z t "str_ascii_iterator" (Or.inl rfl)) ⟨_, Heap.get?_push_size _ rfl, rfl, rfl⟩ k)
  · cases r1
    obtain ⟨g1, g2, g3, es, ep, vs, g4, g5, kv, hm⟩ := I1.frzK hd
    exact iter_keys g1 g2 g3 g4 (pi_one (tk := s1.toks) I1 _ (turn_keys _ g4) ⟨_, Heap.get?_push_size _ rfl, rfl, by rw [g5]; rfl⟩ k)
theorem pi_imp {wi wi' : TI} (h : PI X tg a wi) (k : ∀ σ H R, wi' σ H R → wi σ H R) : PI X tg a wi' := ⟨fun pins s σ H R I q => h.run pins s σ H R I (k σ H R q)⟩
theorem lockOf_own {env : Env} {r : R} {i : Nat} (h : lockOf env r = some i) : r = .loan i ∧ ∃ o, env[i]? = some (some (.own o)) := by
  cases r with
  | loan j =>
    simp only [lockOf] at h
    split at h
    · rename_i o e
      cases h
      exact ⟨rfl, .lst o, e⟩
    · cases h
  | _ => cases h
/-- what stands of a thing that is walked -/
theorem lstd_of {K : PySem.W.Frag} {σ : L2.St} {env : Env} {H F H0 : Hp} {P0 : Fp} {fp : Nat → List Addr} {r : R} {v : V} {l : List Addr} {t : T} {xs : List T} (E : EnvR K env σ H F fp) (rr : RR K σ H F r v l) (tm : Tmp H0 P0 F (fpOf env fp) l)
    (e : lookT env r = some t) (es : seqL t = some xs) : ∃ a vs, v = .ref a ∧ SqL K H a vs ∧ DenAll K F vs xs ∧ LStd K a vs (fpOf (lockE env (lockOf env r)) fp) H := by
  obtain ⟨E2, o2, a2⟩ := E.lock (lockOf env r)
  have less : ∀ {a o}, Stands (fpOf env fp) H a o → Stands (fpOf (lockE env (lockOf env r)) fp) H a o := fun h => ⟨h.1, fun z => h.2 (o2 _ z)⟩
  have fz : Den K F v t → ∃ a vs, v = .ref a ∧ SqL K H a vs ∧ DenAll K F vs xs ∧ LStd K a vs (fpOf (lockE env (lockOf env r)) fp) H := by
    intro d
    obtain ⟨a, vs, rfl, ha, da⟩ := d.seqL es
    refine ⟨a, vs, rfl, E.sub.seq ha, da, ?_⟩
    rcases LStd.of E ha with ⟨o, h1, h2⟩ | h
    · exact .inl ⟨o, less h1, h2⟩
    · exact .inr h
  cases rr with
  | val d => simp [lookT, G.look] at e; subst e; exact fz d
  | new d =>
    simp only [lookT, G.look, Option.map_some, Option.some.injEq, toT] at e
    subst e
    cases d with
    | @lst a vs ts ha da =>
      simp only [frz, seqL, Option.some.injEq] at es
      subst es
      refine ⟨a, vs, rfl, .inl (.inl ha), da, .inl ⟨_, less ⟨ha, fun z => ?_⟩, .inl rfl⟩⟩
      exact (tm a (by simp)).2.1 ((fpOf env fp).sub a z)
    | dic ha da => simp [frz, seqL] at es
  | @loan _ i hi =>
    cases ei : env[i]? with
    | none => simp [lookT, G.look, ei] at e
    | some iv =>
      cases iv with
      | none => simp [lookT, G.look, ei] at e
      | some iv =>
        obtain ⟨v', g1, g2⟩ := E.slot i iv ei
        rw [hi] at g1
        cases g1
        simp only [lookT, G.look, ei, Option.map_some, Option.some.injEq] at e
        subst e
        generalize hl : fp i = li at g2
        cases g2 with
        | val d => exact fz d
        | own d =>
          cases d with
          | @lst a vs ts ha da =>
            simp only [toT, frz, seqL, Option.some.injEq] at es
            subst es
            refine ⟨a, vs, rfl, .inl (.inl ha), da, .inl ⟨_, ⟨ha, fun ⟨j, o, ej, hj⟩ => ?_⟩, .inl rfl⟩⟩
            have hji := E.dis j i a hj (by rw [hl]; simp)
            subst hji
            simp only [lockOf, ei, lockE] at ej
            rw [List.getElem?_set_self (List.getElem?_eq_some_iff.mp ei).1] at ej
            cases ej
          | dic ha da => simp [toT, frz, seqL] at es
        | lck d =>
          cases d with
          | @lst a vs ts ha da =>
            simp only [toT, frz, seqL, Option.some.injEq] at es
            subst es
            refine ⟨a, vs, rfl, .inl (.inl ha), da, .inl ⟨_, less ⟨ha, fun ⟨j, o, ej, hj⟩ => ?_⟩, .inl rfl⟩⟩
            have hji := E.dis j i a hj (by rw [hl]; simp)
            subst hji
            rw [ei] at ej
            cases ej
          | dic ha da => simp [toT, frz, seqL] at es
def mSeq (ma : Env → Out R) : Env → Out (List T × Option Nat) := fun env => (ma env).bind fun r e1 => match dicOf e1 r with
    | some kts => .ok (keysT kts, none) e1
    | none => ofO ((lookT e1 r).bind fun t => (seqI t).map fun xs => (xs, lockOf e1 r)) e1
theorem src_keys {K : PySem.W.Frag} {d : Addr} {o : Obj} {F0 : Hp} {kvs : List (Key × V)} {kts : List (Key × T)} (dk : DenKV K F0 kvs kts) : SrcOk K (Itk d o kvs) (keysT kts) fun P H _ => Stands P H d (.frz o (.dK kvs)) where
  go := fun i P H F h _ hi => ⟨h.1, by rw [dk.length]; simpa [keysT] using hi⟩
  stop := fun i P H F h _ hi => ⟨h.1, by rw [dk.length]; simpa [keysT] using hi⟩
  yld := fun i P H F x H' t _ _ y e => by
    obtain ⟨rfl, k, v, ek, rfl⟩ := y
    unfold keysT at e
    rw [List.getElem?_map] at e
    have hk := congrArg (fun l : List Key => l[i]?) dk.keys
    simp only [List.getElem?_map, ek, Option.map_some] at hk
    cases et : kts[i]? with
    | none => rw [et] at e; cases e
    | some kt =>
      rw [et] at e hk
      simp only [Option.map_some, Option.some.injEq] at e hk
      subst e
      rw [← hk]
      left
      refine ⟨rfl, ?_⟩
      cases k with
      | inl i => exact .int _
      | inr s => exact .str _
  step := fun P H F P' H' F' h s => h.step s
theorem pi_seq (ha : PE X a (tE X.K W ma)) : PI X tg a (tSrc X.K W (mSeq ma)) := by
  refine pi_imp (pi_any ha) fun σ H R0 ⟨env, F, fp, E, q⟩ => ?_
  refine tE_intro E Stp.refl q fun r e1 H1 F1 fp1 v l E1 s1 rr tm q1 => ?_
  cases hdd : dicOf e1 r with
  | some kts =>
    rw [hdd] at q1
    cases r with
    | loan i =>
      simp only [dicOf] at hdd
      split at hdd
      · rename_i kts' ei
        cases hdd
        obtain ⟨v', k1, k2⟩ := E1.slot i _ ei
        cases rr with
        | loan k3 =>
          rw [k3] at k1
          cases k1
          generalize hl : fp1 i = li at k2
          cases k2 with
          | lck k2 => cases k2 with
            | @dic a ob kvs _ k4 k5 =>
              refine .inr (.inr (.inr ⟨a, ob, kvs, rfl, k4, q1 H1 F1 fp1 E1 s1 _ _ (src_keys k5) ⟨k4, fun ⟨j, o, ej, hj⟩ => ?_⟩ (fun i h => by cases h)⟩))
              have := E1.dis j i a hj (by rw [hl]; exact List.mem_cons_self)
              subst this
              have ej : e1[j]? = some (some (.own o)) := ej
              rw [ei] at ej
              cases ej
      · cases hdd
    | _ => cases hdd
  | none =>
  rw [hdd] at q1
  obtain ⟨it, e, q2⟩ := ofO_asks q1
  simp only [Option.bind_eq_some_iff, Option.map_eq_some_iff] at e
  obtain ⟨t, et, xs, ex, rfl⟩ := e
  have q3 := q2 H1 F1 fp1 E1 s1
  have hlk : ∀ i, (xs, lockOf e1 r).2 = some i → ∃ o, e1[i]? = some (some (.own o)) := fun i hi => (lockOf_own hi).2
  have lists : seqL t = some xs → ((∃ a, v = .ref a ∧ (∃ xs, SqL X.K H1 a xs) ∧ R0 (Itl X.K a) H1) ∨ (∃ a, v = .ref a ∧ (∃ xs, SqT X.K H1 a xs) ∧ R0 (Itt X.K a) H1) ∨ (∃ z, v = .str z ∧ R0 (Its z) H1) ∨ ∃ d o kvs, v = .ref d ∧ H1 d = some (.frz o (.dK kvs)) ∧ R0 (Itk d o kvs) H1) := fun es => by
    obtain ⟨a, vs, rfl, h1, h2, h3⟩ := lstd_of E1 rr tm et es
    exact Or.inl ⟨a, rfl, ⟨vs, h1⟩, q3 (Itl X.K a) _ (src_list F1 h2) ⟨h3, fun _ _ h => h⟩ hlk⟩
  cases t with
  | lst ys => exact lists ex
  | rlst ys => exact lists ex
  | tup ys =>
    simp only [seqI, Option.some.injEq] at ex
    subst ex
    obtain ⟨a, vs, rfl, h1, h2⟩ := (rr.vr E1 et).tupF.tup'
    obtain ⟨E2, o2, a2⟩ := E1.lock (lockOf e1 r)
    refine .inr (.inl ⟨a, rfl, ⟨vs, same_t E1.sub h1⟩, q3 (Itt X.K a) _ (src_tup F1 h2) ⟨?_, fun _ _ h => h⟩ hlk⟩)
    rcases TStd.of E1 h1 with ⟨o, h3, h4⟩ | h
    · exact .inl ⟨o, ⟨h3.1, fun z => h3.2 (o2 _ z)⟩, h4⟩
    · exact .inr h
  | str z =>
    simp only [seqI, Option.some.injEq] at ex
    subst ex
    exact .inr (.inr (.inl ⟨z, (rr.vr E1 et).is_str, q3 (Its z) _ (src_str z) trivial hlk⟩))
  | _ => simp [seqI] at ex
theorem pi_rng1 (hg : Gl X "range") (hm : X.mg "range" = none) (ha : PE X a (tE X.K W ma)) (hs : noStarE a = true) : PI X tg (.Call (.Name "range" p) [a] [] pos) (tSrc X.K W fun env => (ma env).bind fun r e1 => match r with
    | .val (.int j) => if inRng j then .ok (rngT 0 j.toNat, none) e1 else .stuck
    | _ => .stuck) := by
  refine pi_imp (pi_range1 hg hm (pa_cons ha pa_nil (star_cons hs)) (by rw [star_cons hs]; rfl)) fun σ H R0 ⟨env, F, fp, E, q⟩ => ?_
  refine tE_intro E Stp.refl q fun r e1 H1 F1 fp1 v l E1 s1 rr tm q1 => ?_
  cases rr with
  | val d =>
    cases d with
    | int j =>
      simp only at q1
      split at q1
      · rename_i hj
        replace hj := inRng_of hj
        exact ⟨j, rfl, hj.1, hj.2, q1 H1 F1 fp1 E1 s1 _ _ (src_rng 0 _) trivial (fun i h => by cases h)⟩
      · exact q1.elim
    | _ => exact q1.elim
  | _ => exact q1.elim
theorem pi_rng2 (hg : Gl X "range") (hm : X.mg "range" = none) (ha : PE X a (tE X.K W ma)) (hb : PE X b (tE X.K W mb)) (hs : noStarE a = true) (hs2 : noStarE b = true) : PI X tg (.Call (.Name "range" p) [a, b] [] pos) (tSrc X.K W fun env => (ma env).bind fun r e1 => (mb e1).bind fun r2 e2 => match r, r2 with
    | .val (.int i), .val (.int j) => if inRng i && inRng j then .ok (rngT i (j - i).toNat, none) e2 else .stuck
    | _, _ => .stuck) := by
  refine pi_imp (pi_range2 hg hm (pa_cons ha (pa_cons hb pa_nil (star_cons hs2)) (star_cons hs)) (by rw [star_cons hs, star_cons hs2]; rfl) (by rw [star_cons hs2]; rfl)) fun σ H R0 ⟨env, F, fp, E, q⟩ => ?_
  refine tE_intro E Stp.refl q fun r e1 H1 F1 fp1 v l E1 s1 rr tm q1 => ?_
  refine tE_intro E1 s1 q1 fun r2 e2 H2 F2 fp2 v2 l2 E2 s2 rr2 tm2 q2 => ?_
  cases rr with
  | val d =>
    cases d with
    | int i =>
      cases rr2 with
      | val d2 =>
        cases d2 with
        | int j =>
          simp only at q2
          split at q2
          · rename_i hj
            rw [Bool.and_eq_true] at hj
            replace hj := And.intro (inRng_of hj.1) (inRng_of hj.2)
            exact ⟨i, j, rfl, ⟨hj.1.1, hj.1.2, hj.2.1, hj.2.2⟩, q2 H2 F2 fp2 E2 (s1.trans s2) _ _ (src_rng i _) trivial (fun i h => by cases h)⟩
          · exact q2.elim
        | _ => exact q2.elim
      | _ => exact q2.elim
    | _ => exact q2.elim
  | _ => exact q2.elim
def mZip (ma mb : Env → Out R) : Env → Out (List T × Option Nat) := fun env => (ma env).bind fun ra e1 => (mb e1).bind fun rb e2 => ofO ((esc e2 ra).bind fun x => (esc e2 rb).bind fun y => match x, y with
    | .lst xs, .lst ys => some (zipT xs ys, none)
    | .rlst xs, .lst ys => some (zipT xs ys, none)
    | .tup xs, .tup ys => some (zipT xs ys, none)
    | _, _ => none) e2
theorem pi_zip {elts : List Expr} {kk : Nat} {tpos : Pos} (hg : Gl X "zip") (hm : X.mg "zip" = none) (ha : PE X a (tE X.K W ma)) (hb : PE X b (tE X.K W mb)) (hs : noStarE a = true) (hs2 : noStarE b = true) :
    PI X (.Tuple elts kk tpos) (.Call (.Name "zip" p) [a, b] [] pos) (tSrc X.K W (mZip ma mb)) := by
  refine pi_imp (RZ.pi_zipA hg hm (pa_cons ha (pa_cons hb pa_nil (star_cons hs2)) (star_cons hs)) (star_cons hs) (star_any (by simp [noStar, hs2]))) fun σ H R0 ⟨env, F, fp, E, q⟩ => ?_
  refine tE_intro E Stp.refl q fun ra e1 H1 F1 fp1 v l E1 s1 rr tm q1 => ?_
  refine tE_intro E1 s1 q1 fun rb e2 H2 F2 fp2 v2 l2 E2 s2 rr2 tm2 q2 => ?_
  obtain ⟨it, e, q3⟩ := ofO_asks q2
  simp only [Option.bind_eq_some_iff] at e
  obtain ⟨x, ex, y, ey, e⟩ := e
  have h1 := rr.here
  obtain ⟨F3, sF, dx, E3, s3, n3⟩ := esc_ok (rr.step tm s2) E2 (tm.step s2 h1) (s1.trans s2) ex
  have rr3 : RR X.K σ H2 F3 rb v2 l2 := by
    cases rr2 with
    | val q => exact .val (q.mono sF)
    | new q => exact .new (q.keep (fun _ _ => rfl) sF)
    | loan q => exact .loan q
  have tm3 : Tmp H (fpOf env fp) F3 (fpOf e2 fp2) l2 := fun c hc => by
    obtain ⟨g1, g2, g3⟩ := (tm2.base s1) c hc
    refine ⟨?_, g2, g3⟩
    cases hz : F3 c with
    | none => rfl
    | some o =>
      rcases n3 c (by rw [hz]; simp) with z | z
      · exact absurd g1 z
      · rcases (tm2 c hc).2.2 with w | w
        · exact absurd ((fpOf e1 fp1).sub c w) (tm c z).2.1
        · exact absurd w (h1 c z)
  obtain ⟨F4, sF4, dy, E4, s4, n4⟩ := esc_ok rr3 E3 tm3 s3 ey
  have dx4 := dx.mono sF4
  cases x with
  | lst xs =>
    cases y with
    | lst ys =>
      cases e
      obtain ⟨a1, vs, rfl, ha1, da1⟩ := dx4.lstF
      obtain ⟨a2, ws, rfl, ha2, da2⟩ := dy.lstF
      have L1 : SqL X.K F4 a1 vs := .inl (.inl ha1)
      have L2' : SqL X.K F4 a2 ws := .inl (.inl ha2)
      exact ⟨a1, a2, vs, ws, rfl, .inl ⟨E4.sub.seq L1, E4.sub.seq L2', q3 H2 F4 fp2 E4 s4 _ _ (src_zip F4 da1 da2) ⟨LStd.of E4 L1, LStd.of E4 L2', fun _ _ h => h⟩ (fun i h => by cases h)⟩⟩
    | _ => simp at e
  | rlst xs =>
    cases y with
    | lst ys =>
      cases e
      obtain ⟨a1, vs, rfl, L1, da1⟩ := dx4.seqL (xs := xs) rfl
      obtain ⟨a2, ws, rfl, ha2, da2⟩ := dy.lstF
      have L2' : SqL X.K F4 a2 ws := .inl (.inl ha2)
      exact ⟨a1, a2, vs, ws, rfl, .inl ⟨E4.sub.seq L1, E4.sub.seq L2', q3 H2 F4 fp2 E4 s4 _ _ (src_zip F4 da1 da2) ⟨LStd.of E4 L1, LStd.of E4 L2', fun _ _ h => h⟩ (fun i h => by cases h)⟩⟩
    | _ => simp at e
  | tup xs =>
    cases y with
    | tup ys =>
      cases e
      obtain ⟨a1, vs, rfl, L1, da1⟩ := dx4.tup'
      obtain ⟨a2, ws, rfl, L2', da2⟩ := dy.tup'
      exact ⟨a1, a2, vs, ws, rfl, .inr ⟨same_t E4.sub L1, same_t E4.sub L2', q3 H2 F4 fp2 E4 s4 _ _ (src_zipT F4 da1 da2) ⟨TStd.of E4 L1, TStd.of E4 L2', fun _ _ h => h⟩ (fun i h => by cases h)⟩⟩
    | _ => simp at e
  | _ => simp at e
end
end G
namespace G
open PySem PySem.Spec PyProof.Rows L2

/-! # dict comprehensions, displays, locks -/
def dcStep (tg : Tgt) (cond : Env → Out Bool) (ky va : Env → Out R) (vs : List Nat) : T → Env → Out (Option (Key × T)) := fun t e => match bindT (fun _ => false) tg t (wipeE e vs) with
        | none => .stuck
        | some e2 => noexc ((cond e2).bind fun k e3 => if k then (ky e3).bind fun rk e4 => (va e4).bind fun rv e5 => ofO (((lookT e5 rk).bind keyT).bind fun k => (esc e5 rv).map fun t => some (k, t)) e5 else .ok none e3)
def mDc (src : Env → Out (List T × Option Nat)) (tg : Tgt) (cond : Env → Out Bool) (ky va : Env → Out R) (vs : List Nat) : Env → Out R := fun env => (src env).bind fun it e1 =>
      (dcLoop (dcStep tg cond ky va vs) it.1 [] (lockE e1 it.2)).bind fun acc e5 => .ok (.new (.dic acc)) (unlockE (wipeE e5 vs) it.2)
theorem dc_imp {K : PySem.W.Frag} {W : WX} {src : Env → Out (List T × Option Nat)} {tg : Tgt} {cond : Env → Out Bool} {ky va : Env → Out R} {vs : List Nat} {σ : L2.St} {H : Hp} {Q : VK} (htg : ∀ i ∈ tgIs tg, i ∈ vs)
    (h : tE K W (mDc src tg cond ky va vs) σ H Q) : tDc (tSrc K W src) (gTgt K tg) (G.tB K W0 cond) (tE K W0 ky) (tE K W0 va) vs σ H Q := by
  obtain ⟨env, F, fp, E, q⟩ := h
  refine ⟨env, F, fp, E, ?_⟩
  unfold mDc at q
  cases es : src env with
  | stuck => rw [es] at q; exact q
  | exc x env' => rw [es] at q; exact q
  | ok it e1 =>
    rw [es] at q
    replace q : ((dcLoop (dcStep tg cond ky va vs) it.1 [] (lockE e1 it.2)).bind fun acc e5 => Out.ok (R.new (.dic acc)) (unlockE (wipeE e5 vs) it.2)).asks K W σ H F (fpOf env fp) (Ask K σ H (fpOf env fp) Q) := q
    intro H1 F1 fp1 E1 s1 J Std ok std hlk D hD
    obtain ⟨E2, o2, a2⟩ := E1.lock it.2
    have F1D : F1 D = none := E1.freeF hD
    -- the invariant at the i-th turn
    refine ⟨fun i m H' => m = it.1.length - i ∧ i ≤ it.1.length ∧ ∃ e F' fp' accV acc, EnvR K (wipeE e vs) (L2.wipe σ vs) H' F' fp' ∧ Stp (fpOf (lockE e1 it.2) fp1) H1 F1 (fpOf (wipeE e vs) fp') H' F' ∧ H' D = some (.dK accV) ∧ DenKV K F' accV acc ∧ F' D = none ∧
      ¬ (fpOf (wipeE e vs) fp').all D ∧ ((dcLoop (dcStep tg cond ky va vs) (it.1.drop i) acc e).bind fun acc e5 => Out.ok (R.new (.dic acc)) (unlockE (wipeE e5 vs) it.2)).asks K W σ H F (fpOf env fp) (Ask K σ H (fpOf env fp) Q), ⟨it.1.length, ?_⟩, ?_⟩
    · obtain ⟨E3, s3⟩ := (E2.alloc (o := .dK []) hD).wipe vs
      refine ⟨rfl, Nat.zero_le _, lockE e1 it.2, F1, _, [], [], E3, (Stp.refl.alloc hD).trans s3, upd_same, .nil, F1D, fun ⟨j, hj⟩ => ?_, q⟩
      have hj : D ∈ (if j ∈ vs then [] else fp1 j) := hj
      split at hj
      · simp at hj
      · exact E1.here j D hj hD
    · rintro i m H' ⟨rfl, hi, e, F', fp', accV, acc, E3, s3, hDa, dacc, hFD, hnD, qi⟩
      have std3 := ok.step _ _ _ _ _ _ std s3
      by_cases hlt : i < it.1.length
      · -- a turn
        refine .inr ⟨ok.go i _ _ _ std3 E3.sub hlt, fun H'' => ∃ e F' fp' accV acc, EnvR K (wipeE e vs) (L2.wipe σ vs) H'' F' fp' ∧ Stp (fpOf (lockE e1 it.2) fp1) H1 F1 (fpOf (wipeE e vs) fp') H'' F' ∧ H'' D = some (.dK accV) ∧ DenKV K F' accV acc ∧ F' D = none ∧
          ¬ (fpOf (wipeE e vs) fp').all D ∧ ((dcLoop (dcStep tg cond ky va vs) (it.1.drop (i + 1)) acc e).bind fun acc e5 => Out.ok (R.new (.dic acc)) (unlockE (wipeE e5 vs) it.2)).asks K W σ H F (fpOf env fp) (Ask K σ H (fpOf env fp) Q), fun H'' hN => ⟨it.1.length - (i + 1), by omega, rfl, hlt, hN⟩, fun x H4 y => ?_⟩
        have ed : it.1.drop i = it.1[i] :: it.1.drop (i + 1) := List.drop_eq_getElem_cons hlt
        rw [ed] at qi
        have yd := ok.yld i _ _ _ x H4 it.1[i] std3 E3.sub y (List.getElem?_eq_getElem hlt)
        obtain ⟨F4, sF, E4, s4, d4⟩ := yd.to E3
        -- the step's outcome
        cases hst : dcStep tg cond ky va vs it.1[i] e with
        | stuck => simp only [dcLoop, hst] at qi; exact qi.elim
        | exc x' e' =>
          unfold dcStep at hst
          split at hst
          · cases hst
          · rename_i e2 _
            cases hz : ((cond e2).bind fun k e3 => if k then (ky e3).bind fun rk e4 => (va e4).bind fun rv e5 => ofO (((lookT e5 rk).bind keyT).bind fun k => (esc e5 rv).map fun t => some (k, t)) e5 else .ok none e3) <;> rw [hz] at hst <;> cases hst
        | ok o e5 =>
          have qi' : ((match o with
            | some x => if acc.length < sizeLine then dcLoop (dcStep tg cond ky va vs) (it.1.drop (i + 1)) (putT acc x.1 x.2) e5 else .stuck
            | none => dcLoop (dcStep tg cond ky va vs) (it.1.drop (i + 1)) acc e5).bind fun acc e5 => Out.ok (R.new (.dic acc)) (unlockE (wipeE e5 vs) it.2)).asks K W σ H F (fpOf env fp) (Ask K σ H (fpOf env fp) Q) := by
            have z := qi
            simp only [dcLoop, hst] at z
            exact z
          clear qi
          unfold dcStep at hst
          cases hb : bindT (fun _ => false) tg it.1[i] (wipeE e vs) with
          | none => rw [hb] at hst; cases hst
          | some e2 =>
            rw [hb] at hst
            obtain ⟨k, e3, hc, hst⟩ := bind_ok (noexc_ok hst)
            refine tgt_ok E4 d4 hb fun σ2 fp2 E5 s5 so => ?_
            have hw : L2.wipe σ2 vs = L2.wipe σ vs := by
              rw [wipe_congr (σ := L2.wipe σ vs) (fun j hj => so.out j fun z => hj (htg j z)) so.len, wipe_wipe]
            refine ⟨hw, e2, F4, fp2, E5, ?_⟩
            rw [hc]
            intro H6 F6 fp6 E6 s6
            have s36 : Stp (fpOf (wipeE e vs) fp') H' F' (fpOf e3 fp6) H6 F6 := (s4.trans s5).trans s6
            have s16 := s3.trans s36
            have hD0 : H' D ≠ none := by rw [hDa]; simp
            obtain ⟨g1, g2, g3⟩ := s36.fresh hD0 hnD hFD
            cases k with
            | false =>
              rw [if_neg Bool.false_ne_true] at hst
              refine iteF ?_
              cases hst
              obtain ⟨E7, s7⟩ := E6.wipe vs
              rw [hw] at E7
              refine ⟨_, F6, _, accV, acc, E7, s16.trans s7, by rw [g1]; exact hDa, dacc.mono s36.fz, g2, fun ⟨j, hj⟩ => ?_, qi'⟩
              have hj : D ∈ (if j ∈ vs then [] else fp6 j) := hj
              split at hj
              · simp at hj
              · exact g3 ⟨j, hj⟩
            | true =>
              rw [if_pos rfl] at hst
              refine iteT ?_
              obtain ⟨rk, e4, hke, hst⟩ := bind_ok hst
              obtain ⟨rv, e6, hve, hst⟩ := bind_ok hst
              obtain ⟨hesc, he5⟩ := ofO_ok hst
              subst he5
              obtain ⟨key, hkey, hesc⟩ := Option.bind_eq_some_iff.mp hesc
              obtain ⟨t, het, rfl⟩ := Option.map_eq_some_iff.mp hesc
              obtain ⟨tk, htk, hkt⟩ := Option.bind_eq_some_iff.mp hkey
              refine ⟨e3, F6, fp6, E6, ?_⟩
              rw [hke]
              intro H7 F7 fp7 E7 s7 y7 l rr tm
              refine ⟨e4, F7, fp7, E7, ?_⟩
              rw [hve]
              intro H9 F9 fp9 E9 s9 y9 l9 rr9 tm9
              obtain ⟨F8, sF8, d8, E8, s8, n8⟩ := esc_ok rr9 E9 tm9 s9 het
              have hyk : y7 = kV key := (((rr.step tm s9).vr E9 htk).den E9.sub).key hkt
              have s38 := (s36.trans s7).trans s8
              obtain ⟨k1, k2, k3⟩ := s38.fresh hD0 hnD hFD
              simp only at qi'
              split at qi'
              · rename_i hz
                have hD8 : H9 D = some (.dK accV) := by rw [k1]; exact hDa
                have dacc8 := dacc.mono s38.fz
                refine ⟨accV, key, hyk, hD8, by rw [dacc8.length]; exact hz, ?_⟩
                obtain ⟨E10, s10⟩ := (E8.updTmp (o := .dK (putK accV key y9)) k3 k2).wipe vs
                rw [hw] at E10
                refine ⟨e6, F8, _, putK accV key y9, putT acc key t, E10, ((s3.trans s38).updNew hD).trans s10, upd_same, dacc8.put key d8, k2, fun ⟨j, hj⟩ => ?_, qi'⟩
                have hj : D ∈ (if j ∈ vs then [] else fp9 j) := hj
                split at hj
                · simp at hj
                · exact k3 ⟨j, hj⟩
              · exact qi'.elim
      · -- the end
        have ei : i = it.1.length := by omega
        subst ei
        refine .inl ⟨ok.stop _ _ _ _ std3 E3.sub (Nat.le_refl _), ?_⟩
        rw [List.drop_length] at qi
        have qi : (Out.ok (R.new (.dic acc)) (unlockE (wipeE e vs) it.2)).asks K W σ H F (fpOf env fp) (Ask K σ H (fpOf env fp) Q) := qi
        have E4 := E3.unwipe
        have s4 := Stp.locked E1 E4 hlk s3
        refine qi H' F' fp' (E4.unlock it.2).1 (s1.trans s4) (.ref D) [D] (.new (.dic hDa dacc)) fun a ha => ?_
        simp at ha
        subst ha
        exact ⟨hFD, hnD, s1.back hD⟩

/-! ## displays -/
def flatM : List ((Env → Out R) × (Env → Out R)) → Env → Out (List R)
  | [], env => .ok [] env
  | p :: ps, env => (p.1 env).bind fun r e1 => ((p.2 e1).bind fun r2 e2 => (flatM ps e2).bind fun rs e3 => .ok (r2 :: rs) e3).bind fun rs e3 => .ok (r :: rs) e3
def pairV : List V → List (V × V)
  | x :: y :: r => (x, y) :: pairV r
  | _ => []
theorem bind_assoc {α β γ : Type} (o : Out α) (f : α → Env → Out β) (g : β → Env → Out γ) : (o.bind f).bind g = o.bind fun a e => (f a e).bind g := by cases o <;> rfl
theorem pairs_imp {K : PySem.W.Frag} {W : WX} {σ : L2.St} {β : Type} {P0 : Fp} {H0 F0 : Hp} {Q0 : β → Env → Hp → Hp → (Nat → List Addr) → Prop} : ∀ (ps : List ((Env → Out R) × (Env → Out R))) {env : Env} {H F : Hp} {fp : Nat → List Addr} {f : List R → Env → Out β} {Q : List (V × V) → Hp → Prop}, EnvR K env σ H F fp → Stp P0 H0 F0 (fpOf env fp) H F → ((flatM ps env).bind f).asks K W σ H0 F0 P0 Q0 →
    (∀ rs env2 H2 F2 fp2 vs l, EnvR K env2 σ H2 F2 fp2 → Stp (fpOf env fp) H F (fpOf env2 fp2) H2 F2 → RRs K σ H2 F2 rs vs l → Tmp H (fpOf env fp) F2 (fpOf env2 fp2) l → (f rs env2).asks K W σ H0 F0 P0 Q0 → Q (pairV vs) H2) → tPairs (ps.map fun p => (tE K W p.1, tE K W p.2)) σ H Q
  | [], env, H, F, fp, f, Q, E, s, h, k => k [] env H F fp [] [] E Stp.refl .nil .nil h
  | p :: ps, env, H, F, fp, f, Q, E, s, h, k => by
    have h' : ((p.1 env).bind fun r e1 => (p.2 e1).bind fun r2 e2 => (flatM ps e2).bind fun rs e3 => f (r :: r2 :: rs) e3).asks K W σ H0 F0 P0 Q0 := by
      have e : (flatM (p :: ps) env).bind f = (p.1 env).bind fun r e1 => (p.2 e1).bind fun r2 e2 => (flatM ps e2).bind fun rs e3 => f (r :: r2 :: rs) e3 := by
        simp only [flatM, bind_assoc]; rfl
      rwa [e] at h
    refine tE_intro E s h' fun r e1 H1 F1 fp1 v l E1 s1 r1 t1 q1 => ?_
    refine tE_intro E1 (s.trans s1) q1 fun r2 e2 H2 F2 fp2 v2 l2 E2 s2 r2' t2 q2 => ?_
    refine pairs_imp ps E2 ((s.trans s1).trans s2) q2 fun rs e3 H3 F3 fp3 vs ls E3 s3 rs3 t3 q3 => ?_
    have d23 : ∀ a ∈ l2, a ∉ ls := fun x hx hx' => by
      rcases (t3 x hx').2.2 with z | z
      · exact (t2 x hx).2.1 ((fpOf e2 fp2).sub x z)
      · exact r2'.here x hx z
    have t23 : Tmp H1 (fpOf e1 fp1) F3 (fpOf e3 fp3) (l2 ++ ls) := fun x hx => by
      rcases List.mem_append.mp hx with hx | hx
      · exact (t2.step s3 r2'.here) x hx
      · exact (t3.base s2) x hx
    have rr : RRs K σ H3 F3 (r2 :: rs) (v2 :: vs) (l2 ++ ls) := .cons (r2'.step t2 s3) rs3 d23
    refine k (r :: r2 :: rs) e3 H3 F3 fp3 (v :: v2 :: vs) (l ++ (l2 ++ ls)) E3 ((s1.trans s2).trans s3) (.cons (r1.step t1 (s2.trans s3)) rr fun x hx hx' => ?_) (fun x hx => ?_) q3
    · rcases (t23 x hx').2.2 with z | z
      · exact (t1 x hx).2.1 ((fpOf e1 fp1).sub x z)
      · exact r1.here x hx z
    · rcases List.mem_append.mp hx with hx | hx
      · exact (t1.step (s2.trans s3) r1.here) x hx
      · exact (t23.base s1) x hx
theorem DenAll.pairs {K : PySem.W.Frag} {F : Hp} : ∀ {ts : List T} {kts : List (Key × T)} {vs : List V}, DenAll K F vs ts → pairUp ts = some kts → ∃ kvs : List (Key × V), pairV vs = kvs.map (fun kv => (kV kv.1, kv.2)) ∧ DenKV K F kvs kts
  | [], kts, _, .nil, h => by cases h; exact ⟨[], rfl, .nil⟩
  | [t], kts, _, .cons _ .nil, h => by cases h
  | t1 :: t2 :: ts, kts, _, .cons d1 (.cons d2 ds), h => by
    simp only [pairUp, Option.bind_eq_some_iff, Option.map_eq_some_iff] at h
    obtain ⟨k, hk, kts', h', rfl⟩ := h
    obtain ⟨kvs, e, dk⟩ := ds.pairs h'
    refine ⟨(k, _) :: kvs, ?_, .cons d2 dk⟩
    simp only [pairV, List.map_cons, e, d1.key hk]
theorem DenKV.merge {K : PySem.W.Frag} {F : Hp} : ∀ {more : List (Key × V)} {mt : List (Key × T)} {kvs : List (Key × V)} {kts : List (Key × T)}, DenKV K F more mt → DenKV K F kvs kts → DenKV K F (mergeK kvs more) (mt.foldl (fun acc kv => putT acc kv.1 kv.2) kts)
  | [], _, _, _, d, h => by cases d; exact h
  | (k, v) :: more, _, _, _, d, h => by
    cases d with
    | @cons _ _ _ t ts d ds =>
      have := DenKV.merge (more := more) (mt := ts) ds (h.put k d)
      exact this
section
variable {X : Cx} {W : WX} {pos : Pos}
def mDisp (ms : Env → Out (List R)) : Env → Out R := fun env => (ms env).bind fun rs e1 => ofO ((escs e1 rs).bind fun ts => (pairUp ts).bind fun kvs => if kvs.length ≤ 15 then some (R.new (.dic (mergeT kvs))) else none) e1
theorem se_disp {ps : List ((Env → Out R) × (Env → Out R))} {keys : List (Option Expr)} {values : List Expr} (h : PPs X pos keys values (ps.map fun p => (tE X.K W p.1, tE X.K W p.2))) (hall : keys.all (·.isSome) = true) (hl : keys.length = values.length) (h0 : keys ≠ []) (h15 : keys.length ≤ 15) :
    PE X (.Dict keys values pos) (tE X.K W (mDisp (flatM ps))) := by
  refine pe_imp (pe_disp h hall hl h0 h15) fun σ H Q ⟨env, F, fp, E, q⟩ => fun p hp => ?_
  have E0 := E.alloc (o := .dK []) hp
  have F0p : F p = none := E.freeF hp
  have A0p : ¬ (fpOf env fp).all p := E.notAll hp
  have s0 : Stp (fpOf env fp) H F (fpOf env fp) (upd H p (.dK [])) F := Stp.refl.alloc hp
  refine pairs_imp ps E0 s0 q fun rs e1 H1 F1 fp1 vs l E1 s1 rs1 t1 q1 => ?_
  obtain ⟨r, e, q2⟩ := ofO_asks q1
  simp only [Option.bind_eq_some_iff] at e
  obtain ⟨ts, e1', kts, e2, e3⟩ := e
  split at e3
  · rename_i hz
    cases e3
    obtain ⟨F2, sF, d, E2, s2⟩ := escs_ok rs1 E1 t1 s1 e1'
    obtain ⟨kvs, ek, dk⟩ := d.pairs e2
    obtain ⟨k1, k2, k3⟩ := s2.fresh (a := p) (by rw [upd_same]; simp) A0p F0p
    refine ⟨by rw [k1, upd_same], kvs, ek, by rw [dk.length]; exact hz, ?_⟩
    have E3 := E2.updTmp (o := .dK (mergeK [] kvs)) k3 k2
    have s3 := (s0.trans s2).updNew (o := .dK (mergeK [] kvs)) hp
    refine q2 _ _ fp1 E3 s3 (.ref p) [p] (.new (.dic upd_same (dk.merge .nil))) fun a ha => ?_
    simp at ha
    subst ha
    exact ⟨k2, k3, .inr hp⟩
  · cases e3

/-! ## a dict is locked while it is walked -/
theorem EnvR.lockD {K : PySem.W.Frag} {env : Env} {σ : L2.St} {H F : Hp} {fp : Nat → List Addr} (E : EnvR K env σ H F fp) {i : Nat} {kts : List (Key × T)} {a : Addr} {kvs : List (Key × V)} {od : Obj} (ei : env[i]? = some (some (.own (.dic kts)))) (hv : σ[i]? = some (some (.ref a))) (ha : H a = some (.dK kvs)) (hl : fp i = [a]) (d : DenKV K F kvs kts) :
    EnvR K (env.set i (some (.lck (.dic kts)))) σ (upd H a (.frz od (.dK kvs))) F fp := by
  have hi : i < env.length := (List.getElem?_eq_some_iff.mp ei).1
  have hFa : F a = none := E.free i a (by rw [hl]; exact List.mem_cons_self)
  refine ⟨fun j iv ej => ?_, fun j hj => ?_, E.dis, E.free, fun b x e => ?_, by simpa using E.len⟩
  · rcases get_set ej with ⟨rfl, h3, _⟩ | ⟨h3, h4⟩
    · cases h3
      exact ⟨_, hv, by rw [hl]; exact .lck (.dic upd_same d)⟩
    · obtain ⟨v, g1, g2⟩ := E.slot j iv h4
      refine ⟨v, g1, g2.keep (fun b hb => upd_ne fun z => h3 ?_) fun _ _ h => h⟩
      subst z
      exact E.dis i j b (by rw [hl]; exact List.mem_cons_self) hb
  · by_cases hji : j = i
    · subst hji
      exact absurd (by rw [List.getElem?_set_self hi]) (hj (.lck (.dic kts)))
    · exact E.out j (get_set_none hj (Ne.symm hji))
  · rw [upd_ne (ne_of_none e hFa)]
    exact E.sub b x e
theorem EnvR.freeD {K : PySem.W.Frag} {env : Env} {σ : L2.St} {H F : Hp} {fp : Nat → List Addr} (E : EnvR K env σ H F fp) {i : Nat} {kts : List (Key × T)} {a : Addr} {kvs : List (Key × V)} (ei : env[i]? = some (some (.lck (.dic kts)))) (hv : σ[i]? = some (some (.ref a))) (hl : fp i = [a]) (d : DenKV K F kvs kts) :
    EnvR K (env.set i (some (.own (.dic kts)))) σ (upd H a (.dK kvs)) F fp := by
  have hi : i < env.length := (List.getElem?_eq_some_iff.mp ei).1
  have hFa : F a = none := E.free i a (by rw [hl]; exact List.mem_cons_self)
  refine ⟨fun j iv ej => ?_, fun j hj => ?_, E.dis, E.free, fun b x e => ?_, by simpa using E.len⟩
  · rcases get_set ej with ⟨rfl, h3, _⟩ | ⟨h3, h4⟩
    · cases h3
      exact ⟨_, hv, by rw [hl]; exact .own (.dic upd_same d)⟩
    · obtain ⟨v, g1, g2⟩ := E.slot j iv h4
      refine ⟨v, g1, g2.keep (fun b hb => upd_ne fun z => h3 ?_) fun _ _ h => h⟩
      subst z
      exact E.dis i j b (by rw [hl]; exact List.mem_cons_self) hb
  · by_cases hji : j = i
    · subst hji
      exact absurd (by rw [List.getElem?_set_self hi]) (hj (.own (.dic kts)))
    · exact E.out j (get_set_none hj (Ne.symm hji))
  · rw [upd_ne (ne_of_none e hFa)]
    exact E.sub b x e
def mLockd (i : Nat) (m : Env → Out R) : Env → Out R := fun env => if isD env i then unlockR i (m (lockD env i)) else m env
theorem se_lockd {e : Expr} {m : Env → Out R} {i : Nat} (h : PE X e (tE X.K W m)) : PE X e (tE X.K W (mLockd i m)) := by
  refine ⟨fun pins s σ H Q I ⟨env, F, fp, E, q⟩ => ?_⟩
  by_cases hD : isD env i = true
  · have ed : ∃ kts, env[i]? = some (some (.own (.dic kts))) := by
      unfold isD at hD
      split at hD
      · exact ⟨_, by assumption⟩
      · cases hD
    obtain ⟨kts, ei⟩ := ed
    have hi : i < env.length := (List.getElem?_eq_some_iff.mp ei).1
    obtain ⟨v, hv, r⟩ := E.slot i _ ei
    generalize hl : fp i = li at r
    cases r with
    | own r => cases r with
      | @dic a kvs _ ha d =>
        have q2 : (unlockR i (m (lockD env i))).asks X.K W σ H F (fpOf env fp) (Ask X.K σ H (fpOf env fp) Q) := by
          have z := q
          simp only [mLockd, hD, if_true] at z
          exact z
        refine (pe_lock h).run pins s σ H Q I ⟨a, .dK kvs, ha, trivial, fun od => ⟨lockD env i, F, fp, ?_, ?_⟩⟩
        · simp only [lockD, ei]
          exact E.lockD ei hv ha hl d
        · have hown : (fpOf env fp).own a := ⟨i, _, ei, by rw [hl]; exact List.mem_cons_self⟩
          have oL : ∀ b, (fpOf (lockD env i) fp).own b → (fpOf env fp).own b ∧ b ≠ a := fun b ⟨j, o, ej, hj⟩ => by
            simp only [lockD, ei] at ej
            rcases get_set ej with ⟨_, h3, _⟩ | ⟨h3, h4⟩
            · cases h3
            · exact ⟨⟨j, o, h4, hj⟩, fun z => h3 (by rw [z] at hj; exact E.dis i j a (by rw [hl]; exact List.mem_cons_self) hj)⟩
          have lL : ∀ j b, (fpOf (lockD env i) fp).lk j b → (j = i ∧ b = a) ∨ (j ≠ i ∧ (fpOf env fp).lk j b) := fun j b ⟨o, ej, hj⟩ => by
            simp only [lockD, ei] at ej
            rcases get_set ej with ⟨h2, h3, _⟩ | ⟨h3, h4⟩
            · subst h2
              rw [hl] at hj
              exact .inl ⟨rfl, by simpa using hj⟩
            · exact .inr ⟨Ne.symm h3, ⟨o, h4, hj⟩⟩
          have hN : ∀ b, (upd H a (.frz od (.dK kvs))) b = none → H b = none := fun b hb => by
            by_cases z : b = a
            · subst z; rw [upd_same] at hb; cases hb
            · rwa [upd_ne z] at hb
          cases em : m (lockD env i) with
          | stuck => rw [em] at q2; exact q2
          | exc x e' => rw [em] at q2; exact q2.elim
          | ok r env' =>
            rw [em] at q2
            intro H' F' fp' E' s' v' l rr tm
            have hna : ¬ (fpOf (lockD env i) fp).own a := fun z => (oL a z).2 rfl
            have ha' : H' a = some (.frz od (.dK kvs)) := s'.keep a _ upd_same hna
            refine ⟨ha', ?_⟩
            simp only [unlockR] at q2
            split at q2
            · rename_i o eo
              obtain ⟨w, hw, rw'⟩ := E'.slot i _ eo
              generalize hl' : fp' i = li' at rw'
              cases rw' with
              | lck rw' => cases rw' with
                | @dic a2 ob kvs2 _ h2 d2 =>
                  have ea2 : a2 = a := by
                    rcases lL i a2 (s'.lk i a2 ⟨_, eo, by rw [hl']; exact List.mem_cons_self⟩) with ⟨_, z⟩ | ⟨z, _⟩
                    · exact z
                    · exact absurd rfl z
                  subst ea2
                  rw [ha'] at h2
                  cases h2
                  have ma : a2 ∈ fp' i := by rw [hl']; exact List.mem_cons_self
                  have nl : ∀ b ∈ l, b ≠ a2 := fun b hb z => (tm b hb).2.1 ⟨i, by rw [z]; exact ma⟩
                  refine q2 (upd H' a2 (.dK kvs)) F' fp' (E'.freeD eo hw hl' d2) ⟨fun b x e hn => ?_, s'.fz, fun b hb => ?_, fun b ⟨j, o', ej, hj⟩ => ?_, fun b hb => ?_, fun j b ⟨o', ej, hj⟩ => ?_⟩ v' l ?_ fun b hb => ?_
                  · have hb : b ≠ a2 := fun z => hn (by rw [z]; exact hown)
                    rw [upd_ne hb]
                    exact s'.keep b x (by rw [upd_ne hb]; exact e) fun z => hn (oL b z).1
                  · rcases s'.nfz b hb with z | z | z
                    · exact .inl z
                    · exact .inr (.inl (oL b z).1)
                    · exact .inr (.inr (hN b z))
                  · rcases get_set ej with ⟨h3, _, _⟩ | ⟨h3, h4⟩
                    · subst h3
                      rw [hl'] at hj
                      have : b = a2 := by simpa using hj
                      rw [this]
                      exact .inl hown
                    · exact (s'.own b ⟨j, o', h4, hj⟩).imp (fun z => (oL b z).1) (hN b)
                  · exact (s'.all b hb).imp id (hN b)
                  · rcases get_set ej with ⟨_, h3, _⟩ | ⟨h3, h4⟩
                    · cases h3
                    · rcases lL j b (s'.lk j b ⟨o', h4, hj⟩) with ⟨z, _⟩ | ⟨_, z⟩
                      · exact absurd z.symm h3
                      · exact z
                  · cases rr with
                    | val d => exact .val d
                    | new o => exact .new (o.keep (fun b hb => upd_ne (nl b hb)) fun _ _ h => h)
                    | loan e => exact .loan e
                  · obtain ⟨t1, t2, t3⟩ := tm b hb
                    exact ⟨t1, t2, t3.imp (fun z => (oL b z).1) (hN b)⟩
            · exact q2.elim
  · refine h.run pins s σ H Q I ⟨env, F, fp, E, ?_⟩
    have z := q
    simp only [mLockd, if_neg hD] at z
    exact z

/-! ## a name is given a dict comprehension's dict -/
theorem swD {kx vx : Expr} {gs : List Comprehension} {scope : Scope} {q py : Pos} {y : Str} {l : Nat} {env : PySem.Env} (h1 : env.scope.kind = .function) (h2 : env.scope.names.lookup y = some .local) (h3 : (py.line == q.line) = true)
    (h4 : (scope.names.any fun p => p.1 == y && (p.2 == .local || p.2 == .cell)) = false) : swapsWith (.DictComp kx vx gs scope q) (some (.Name y py)) l env = pure true := by
  have e1 : (env.kindOf y == some NameKind.local) = true := by show (env.scope.names.lookup y == _) = true; rw [h2]; rfl
  have e2 : (env.blockKind == .function) = true := by unfold Env.blockKind; rw [h1]; rfl
  show (pure _ : Sem Bool) = _
  rw [e1, e2]
  show (pure ((py.line == q.line) && !(scope.names.any fun p => p.1 == y && (p.2 == .local || p.2 == .cell))) : Sem Bool) = _
  rw [h3, h4]
  rfl
theorem ps_setDc {i : Nat} {y : Str} {py : Pos} {kx vx tg iter : Expr} {ifs : List Expr} {scope : Scope} {own : List (Str × Nat)} {q spos : Pos} {wi : TI} {g : TG} {tt : TT} {tk tv : TE} (h1 : X.calm = true) (h2 : X.N.Nodup) (h3 : X.N[i]? = some y) (h4 : X.env.scope.names.lookup y = some .local)
    (h5 : swapsWith (.DictComp kx vx [⟨tg, iter, ifs, 0⟩] scope q) (some (.Name y py)) spos.line X.env = pure true) (h6 : PI X tg iter wi) (h7 : BlkOk X.N X.env.scope scope own)
    (h8 : ∀ (s : Shared) (H : Hp) (a : Addr) (cl : List (Str × Addr)) (fp : List Addr), PG (X.blk s H scope (compEnvC scope cl a X.env) fp) tg g) (h9 : ∀ (s : Shared) (H : Hp) (a : Addr) (cl : List (Str × Addr)) (fp : List Addr), PTs (X.blk s H scope (compEnvC scope cl a X.env) fp) ifs tt)
    (hA : ∀ (s : Shared) (H : Hp) (a : Addr) (cl : List (Str × Addr)) (fp : List Addr), PE (X.blk s H scope (compEnvC scope cl a X.env) fp) kx tk)
    (hB : ∀ (s : Shared) (H : Hp) (a : Addr) (cl : List (Str × Addr)) (fp : List Addr), PE (X.blk s H scope (compEnvC scope cl a X.env) fp) vx tv) (hC : ∀ x, foldedSetIterable iter X.env x = pure x) :
    PS X (.Assign [.Name y py] (.DictComp kx vx [⟨tg, iter, ifs, 0⟩] scope q) spos) (tAsg (tDc wi g tt tk tv (own.map (·.2))) (gName i)) := by
  constructor
  intro pins s σ H D I hw
  have hw : tDc wi g tt tk tv (own.map (·.2)) σ H (fun x H1 => gName i x σ H1 D.nx) := hw
  rw [exec_Assign_Name_used (hs := h5)]
  apply wpAny_bind
  apply wpAny_standAt
  apply wpAny_bind
  show wpAny _ X.A (do let _ ← comprehension (.DictComp kx vx [⟨tg, iter, ifs, 0⟩] scope q) scope X.env (firstIterPos [⟨tg, iter, ifs, 0⟩] q) newDict false (eval iter X.env) (some (assign (.Name y py) X.env))) _ _ s
  apply wpAny_bind
  refine thn (dc_core (Qf := fun _ s5 => SP X pins D .next s5) h1 h2 I h6 h7 h8 h9 hA hB hC hw ?_) fun _ s5 r => wpAny_pure (wpAny_pure r)
  intro L c s5 m H5 I5 r5 n5 f5
  show wpAny _ _ (assign (.Name y py) X.env (.ref L)) _ _ _
  apply wpAny_assign_Name
  refine store_ok2 (v := V.ref L) I5 h2 h3 (.inl h4) rfl (fun s6 I6 k => ?_) (.inr h4)
  obtain ⟨a, sb, ha⟩ := k
  obtain ⟨g0, g1, g2, g3, g4, g5⟩ := f5
  have ne : c ≠ a := fun e => by
    rcases ha with z | z
    · exact g1 (e.trans z)
    · exact g4 y a z e.symm
  exact ⟨m, n5.sameBut sb ne, fun h7 sb7 => ⟨_, H5, I6.turned (t' := s6.toks) (fun b o hb e => (sb7.2 b hb).trans e) g0 g1 g3 g4 g5, r5⟩⟩
end
end G
namespace G
open PySem PySem.Spec PyProof.Rows L2

/-! # repr -/
section
variable {X : Cx}
theorem cr_repr (hg : X.A.guards = some []) (hu : X.A.units + 65 < cLine) : CallR X (.builtin "repr") (rBI X.K .repr) := by
  intro pins s σ H xs us Q I r h
  obtain ⟨F, ts, rv, hs, vr, e, q⟩ := h
  match ts, e with
  | [t], e =>
    obtain ⟨v, rfl, d⟩ := vrs1 vr
    obtain ⟨st, es, rfl⟩ := Option.map_eq_some_iff.mp e
    unfold reprT at es
    split at es
    · rename_i hc
      cases es
      simp only [Bool.and_eq_true, decide_eq_true_eq] at hc
      obtain ⟨⟨⟨h1, h2⟩, h3⟩, h4⟩ := hc
      obtain ⟨u, rfl, ru⟩ := vals1 r
      have dd := d.den hs
      obtain ⟨as, rd⟩ := Dp.reads I _ v u (fit_dp 40 h2 dd) ru
      obtain ⟨l1, l2⟩ := fit_lay 40 t h2
      have hv : ∃ a, v = .ref a := by
        cases dd <;> first | exact ⟨_, rfl⟩ | (simp [isSq] at h1; done)
      obtain ⟨a, rfl⟩ := hv
      obtain rfl : u = Value.ref a := ru
      refine PySem.repr_of_reads' rd h3 (fun z => ?_) hg (by omega) (fun _ _ z => z) (fun h' w tk hk => ?_) h4
      · rw [PyData.hasDict_of_canLay _ l1] at z; cases z
      · exact ⟨.str _, H, I.kept (t' := tk) hk, ⟨_, rfl⟩, q _ (.str _)⟩
    · cases es
end
end G
namespace G
open PySem PySem.Spec PyProof.Rows L2

/-! # calls of the program's own defs -/
/-- a def keeps a promise wherever nothing is being shown (repr) -/
structure FnG (gq : Bool) (P : Program) (w : World) (K : PySem.W.Frag) (mg : Str → Option Value) (base : Heap) (k : Nat) (f : Addr) (fd : FuncData) (ps : List Str) (sp : Sp) : Prop where
  len : ∀ vs H Q E, sp vs H Q E → vs.length = ps.length
  run : ∀ (A : Around) (outer : List PySem.Env) (s : Shared) (H : Hp) (args : Args) (us : List Value) (vs : List V) (Q : VK) (E : XK), Room k A → (gq = true → A.guards = some []) → Env0 P w K mg base A outer s H →
    BindsTo s fd args (ps.zip us) → Vals vs us → sp vs H Q E → codeAny (model P w) A (.call (.ref f) args) (CR (CX P w) outer P w H s Q E) s
/-- what a call of meaning m promises -/
def spF (K : PySem.W.Frag) (m : List Iv → Res) : Sp := fun vs H Q E => ∃ ivs F fp, EnvR K (ivs.map some) (vs.map some) H F fp ∧
  match m ivs with
  | .ok r outs => ∀ H' F' fp', EnvR K (outs.map some) (vs.map some) H' F' fp' → Stp (fpOf (ivs.map some) fp) H F (fpOf (outs.map some) fp') H' F' →
      ∀ v l, IvR K H' F' v r l → Tmp H (fpOf (ivs.map some) fp) F' (fpOf (outs.map some) fp') l → Q v H'
  | .exc x outs => ∀ cls d H' F' fp', EnvR K (outs.map some) (vs.map some) H' F' fp' → Stp (fpOf (ivs.map some) fp) H F (fpOf (outs.map some) fp') H' F' → XR x cls d H' → E cls d H'
  | .stuck => False

section
variable {K : PySem.W.Frag} {W : WX} {σ : L2.St} {env : Env} {H F : Hp} {fp : Nat → List Addr}
/-- arguments with what each owns -/
inductive AR (K : PySem.W.Frag) (H F : Hp) : List V → List Iv → List (List Addr) → Prop
  | nil : AR K H F [] [] []
  | cons {v : V} {iv : Iv} {l : List Addr} {vs : List V} {ivs : List Iv} {ls : List (List Addr)} : IvR K H F v iv l → AR K H F vs ivs ls → (∀ a ∈ l, ∀ l' ∈ ls, a ∉ l') → AR K H F (v :: vs) (iv :: ivs) (l :: ls)
theorem AR.get {vs : List V} {ivs : List Iv} {ls : List (List Addr)} (h : AR K H F vs ivs ls) : ∀ {j : Nat} {iv : Iv}, ivs[j]? = some iv → ∃ v l, vs[j]? = some v ∧ ls[j]? = some l ∧ IvR K H F v iv l := by
  induction h with
  | nil => intro j iv e; simp at e
  | cons h hs d ih =>
    intro j iv e
    cases j with
    | zero => simp at e; subst e; exact ⟨_, _, rfl, rfl, h⟩
    | succ j => simpa using ih (by simpa using e)
theorem AR.len {vs : List V} {ivs : List Iv} {ls : List (List Addr)} (h : AR K H F vs ivs ls) : vs.length = ivs.length ∧ ls.length = ivs.length := by
  induction h with
  | nil => exact ⟨rfl, rfl⟩
  | cons h hs d ih => exact ⟨by simp [ih.1], by simp [ih.2]⟩
theorem AR.dis {vs : List V} {ivs : List Iv} {ls : List (List Addr)} (h : AR K H F vs ivs ls) : ∀ {j k : Nat} {l l' : List Addr} {a : Addr}, ls[j]? = some l → ls[k]? = some l' → a ∈ l → a ∈ l' → j = k := by
  induction h with
  | nil => intro j k l l' a e; simp at e
  | cons h hs d ih =>
    intro j k l l' a e e' ha ha'
    cases j with
    | zero =>
      cases k with
      | zero => rfl
      | succ k =>
        simp at e e'
        subst e
        exact absurd ha' (d a ha l' (List.mem_of_getElem? e'))
    | succ j =>
      cases k with
      | zero =>
        simp at e e'
        subst e'
        exact absurd ha (d a ha' l (List.mem_of_getElem? e))
      | succ k =>
        have := ih (j := j) (k := k) (by simpa using e) (by simpa using e') ha ha'
        omega
/-- the arguments of a call, as the callee sees them -/
theorem args_ok (E : EnvR K env σ H F fp) : ∀ {rs : List R} {vs : List V} {l : List Addr} {ivs : List Iv}, RRs K σ H F rs vs l → (∀ a ∈ l, ¬ (fpOf env fp).all a) → argsOf env rs = some ivs → (lent env rs).Nodup →
    ∃ ls : List (List Addr), AR K H F vs ivs ls ∧ (∀ (j : Nat) (r : R) (lj : List Addr), rs[j]? = some r → ls[j]? = some lj → (∃ i, r = R.loan i ∧ lj = fp i) ∨ ((∀ i, r ≠ R.loan i) ∧ ∀ a ∈ lj, a ∈ l)) ∧ (∀ lj ∈ ls, (∀ a ∈ lj, a ∈ l) ∨ ∃ i, i ∈ lent env rs ∧ lj = fp i)
  | _, _, _, _, .nil, _, e, _ => by
    simp [argsOf] at e
    subst e
    exact ⟨[], .nil, fun j r lj h => by simp at h, fun lj h => by simp at h⟩
  | _, _, _, ivs, .cons (r := r) (v := v) (rs := rs) (l := l) (ls := ls) h hs d, hn, e, nd => by
    simp only [argsOf] at e
    cases e1 : look env r with
    | none => rw [e1] at e; simp at e
    | some iv =>
      cases e2 : argsOf env rs with
      | none => rw [e1, e2] at e; simp at e
      | some ivs' =>
        rw [e1, e2] at e
        simp at e
        subst e
        have nd' : (lent env rs).Nodup := by
          cases r with
          | loan i =>
            simp only [lent] at nd
            split at nd
            · exact nd
            · exact (List.nodup_cons.mp nd).2
          | _ => exact nd
        obtain ⟨ls', ar, cl, cl2⟩ := args_ok E hs (fun a ha => hn a (List.mem_append_right _ ha)) e2 nd'
        cases h with
        | val d' =>
          simp [look] at e1
          subst e1
          refine ⟨[] :: ls', .cons (.val d') ar fun a ha => by simp at ha, fun j r' lj hr hl => ?_, fun lj hlj => ?_⟩
          · cases j with
            | zero => simp at hr hl; subst hr hl; exact .inr ⟨fun i => (by simp), fun a ha => by simp at ha⟩
            | succ j =>
              rcases cl j r' lj (by simpa using hr) (by simpa using hl) with z | ⟨z1, z2⟩
              · exact .inl z
              · exact .inr ⟨z1, fun a ha => List.mem_append_right _ (z2 a ha)⟩
          · rcases List.mem_cons.mp hlj with rfl | hlj
            · exact .inl fun a ha => by simp at ha
            · exact (cl2 lj hlj).imp (fun z a ha => List.mem_append_right _ (z a ha)) id
        | new d' =>
          simp [look] at e1
          subst e1
          refine ⟨l :: ls', .cons (.own d') ar fun a ha l' hl' => ?_, fun j r' lj hr hl => ?_, fun lj hlj => ?_⟩
          · rcases cl2 l' hl' with z | ⟨i, hi, rfl⟩
            · exact fun ha' => d a ha (z a ha')
            · exact fun ha' => hn a (List.mem_append_left _ ha) ⟨i, ha'⟩
          · cases j with
            | zero => simp at hr hl; subst hr hl; exact .inr ⟨fun i => (by simp), fun a ha => List.mem_append_left _ ha⟩
            | succ j =>
              rcases cl j r' lj (by simpa using hr) (by simpa using hl) with z | ⟨z1, z2⟩
              · exact .inl z
              · exact .inr ⟨z1, fun a ha => List.mem_append_right _ (z2 a ha)⟩
          · rcases List.mem_cons.mp hlj with rfl | hlj
            · exact .inl fun a ha => List.mem_append_left _ ha
            · exact (cl2 lj hlj).imp (fun z a ha => List.mem_append_right _ (z a ha)) id
        | @loan _ i hi =>
          simp only [look] at e1
          cases ei : env[i]? with
          | none => rw [ei] at e1; simp at e1
          | some x =>
            rw [ei] at e1
            simp only at e1
            subst e1
            obtain ⟨v', g1, g2⟩ := E.slot i iv ei
            rw [hi] at g1
            cases g1
            refine ⟨fp i :: ls', .cons g2 ar fun a ha l' hl' => ?_, fun j r' lj hr hl => ?_, fun lj hlj => ?_⟩
            · rcases cl2 l' hl' with z | ⟨i', hi', rfl⟩
              · exact fun ha' => hn a (List.mem_append_right _ (z a ha')) ⟨i, ha⟩
              · intro ha'
                have hii := E.dis i i' a ha ha'
                subst hii
                simp only [lent, ei] at nd
                cases iv with
                | val t =>
                  generalize fp i = li at g2 ha
                  cases g2
                  simp at ha
                | own o => exact (List.nodup_cons.mp nd).1 hi'
                | lck o => exact (List.nodup_cons.mp nd).1 hi'
            · cases j with
              | zero => simp at hr hl; subst hr hl; exact .inl ⟨i, rfl, rfl⟩
              | succ j =>
                rcases cl j r' lj (by simpa using hr) (by simpa using hl) with z | ⟨z1, z2⟩
                · exact .inl z
                · exact .inr ⟨z1, fun a ha => List.mem_append_right _ (z2 a ha)⟩
            · rcases List.mem_cons.mp hlj with rfl | hlj
              · cases iv with
                | val t =>
                  left
                  intro a ha
                  generalize fp i = li at g2 ha
                  cases g2
                  simp at ha
                | own o => exact .inr ⟨i, by simp [lent, ei], rfl⟩
                | lck o => exact .inr ⟨i, by simp [lent, ei], rfl⟩
              · refine (cl2 lj hlj).imp (fun z a ha => List.mem_append_right _ (z a ha)) fun ⟨i', h1, h2⟩ => ⟨i', ?_, h2⟩
                simp only [lent]
                split
                · exact h1
                · exact List.mem_cons_of_mem _ h1
/-- the callee's first world -/
theorem AR.toEnv {vs : List V} {ivs : List Iv} {ls : List (List Addr)} (h : AR K H F vs ivs ls) (s : Same F H) (hF : ∀ l ∈ ls, ∀ a ∈ l, F a = none) : EnvR K (ivs.map some) (vs.map some) H F fun j => (ls[j]?).getD [] := by
  have hlen := h.len
  refine ⟨fun j iv e => ?_, fun j hj => ?_, fun j k a ha hb => ?_, fun j a ha => ?_, s, by simp [hlen.1]⟩
  · rw [List.getElem?_map] at e
    cases e1 : ivs[j]? with
    | none => rw [e1] at e; simp at e
    | some iv' =>
      rw [e1] at e
      simp at e
      subst e
      obtain ⟨v, l, g1, g2, g3⟩ := h.get e1
      exact ⟨v, by rw [List.getElem?_map, g1]; rfl, by show IvR K H F v iv' ((ls[j]?).getD []); rw [g2]; exact g3⟩
  · show (ls[j]?).getD [] = []
    cases e1 : ivs[j]? with
    | none =>
      have : ls[j]? = none := List.getElem?_eq_none_iff.mpr (by rw [hlen.2]; exact List.getElem?_eq_none_iff.mp e1)
      rw [this]; rfl
    | some iv => exact absurd (by rw [List.getElem?_map, e1]; rfl) (hj iv)
  · have ha : a ∈ (ls[j]?).getD [] := ha
    have hb : a ∈ (ls[k]?).getD [] := hb
    cases e1 : ls[j]? with
    | none => rw [e1] at ha; simp at ha
    | some l =>
      cases e2 : ls[k]? with
      | none => rw [e2] at hb; simp at hb
      | some l' =>
        rw [e1] at ha
        rw [e2] at hb
        exact h.dis e1 e2 ha hb
  · have ha : a ∈ (ls[j]?).getD [] := ha
    cases e1 : ls[j]? with
    | none => rw [e1] at ha; simp at ha
    | some l =>
      rw [e1] at ha
      exact hF l (List.mem_of_getElem? e1) a ha
/-- the slots behind a call -/
theorem back_get : ∀ {rs : List R} {outs : List Iv} {env : Env}, (lent env rs).Nodup → ∀ (i : Nat), ((∀ (j : Nat), rs[j]? = some (R.loan i) → (∃ o, env[i]? = some (some (Iv.own o))) → outs[j]? = none) ∧ (back env rs outs)[i]? = env[i]?) ∨
    ∃ (j : Nat) (o : Ow) (z : Iv), rs[j]? = some (R.loan i) ∧ env[i]? = some (some (Iv.own o)) ∧ outs[j]? = some z ∧ (back env rs outs)[i]? = some (some z)
  | [], outs, env, _, i => .inl ⟨fun j h => by simp at h, by cases outs <;> rfl⟩
  | r :: rs, [], env, _, i => .inl ⟨fun j h _ => by simp, by cases r <;> rfl⟩
  | r :: rs, z :: outs, env, nd, i => by
    have step : ∀ (env' : Env), back env (r :: rs) (z :: outs) = back env' rs outs → lent env' rs = lent env rs → (∀ k, k ≠ i → True) → (env'[i]? = env[i]?) → (∀ o, r = R.loan i → env[i]? ≠ some (some (Iv.own o))) → (lent env rs).Nodup →
        ((∀ (j : Nat), (r :: rs)[j]? = some (R.loan i) → (∃ o, env[i]? = some (some (Iv.own o))) → (z :: outs)[j]? = none) ∧ (back env (r :: rs) (z :: outs))[i]? = env[i]?) ∨
        ∃ (j : Nat) (o : Ow) (z' : Iv), (r :: rs)[j]? = some (R.loan i) ∧ env[i]? = some (some (Iv.own o)) ∧ (z :: outs)[j]? = some z' ∧ (back env (r :: rs) (z :: outs))[i]? = some (some z') := by
      intro env' hb hl _ he hno nd'
      rcases back_get (rs := rs) (outs := outs) (env := env') (by rw [hl]; exact nd') i with ⟨h1, h2⟩ | ⟨j, o, z', h1, h2, h3, h4⟩
      · refine .inl ⟨fun j hj ho => ?_, by rw [hb, h2, he]⟩
        cases j with
        | zero => simp at hj; obtain ⟨o, ho⟩ := ho; exact absurd ho (hno o hj)
        | succ j => simpa using h1 j (by simpa using hj) (by rw [he]; exact ho)
      · exact .inr ⟨j + 1, o, z', by simpa using h1, by rw [← he]; exact h2, by simpa using h3, by rw [hb]; exact h4⟩
    cases r with
    | val t => exact step env rfl rfl (fun _ _ => trivial) rfl (fun o h => by simp at h) nd
    | new t => exact step env rfl rfl (fun _ _ => trivial) rfl (fun o h => by simp at h) nd
    | loan k =>
      simp only [lent] at nd
      cases ek : env[k]? with
      | none =>
        rw [ek] at nd
        refine step env (by simp only [back, ek]) rfl (fun _ _ => trivial) rfl (fun o h => ?_) (List.nodup_cons.mp nd).2
        cases h; rw [ek]; simp
      | some x =>
        cases x with
        | none =>
          rw [ek] at nd
          refine step env (by simp only [back, ek]) rfl (fun _ _ => trivial) rfl (fun o h => ?_) (List.nodup_cons.mp nd).2
          cases h; rw [ek]; simp
        | some iv =>
          cases iv with
          | val t =>
            rw [ek] at nd
            refine step env (by simp only [back, ek]) rfl (fun _ _ => trivial) rfl (fun o h => ?_) nd
            cases h; rw [ek]; simp
          | lck t =>
            rw [ek] at nd
            refine step env (by simp only [back, ek]) rfl (fun _ _ => trivial) rfl (fun o h => ?_) (List.nodup_cons.mp nd).2
            cases h; rw [ek]; simp
          | own o =>
            rw [ek] at nd
            obtain ⟨nk, nd'⟩ := List.nodup_cons.mp nd
            have hb : back env (.loan k :: rs) (z :: outs) = back (env.set k (some z)) rs outs := by simp only [back, ek]
            have hl : ∀ {rs : List R}, k ∉ lent env rs → lent (env.set k (some z)) rs = lent env rs := by
              intro rs
              induction rs with
              | nil => intro _; rfl
              | cons r rs ih =>
                intro hk
                cases r with
                | val t => exact ih hk
                | new t => exact ih hk
                | loan m =>
                  by_cases hm : m = k
                  · subst hm
                    simp only [lent, ek] at hk
                    exact absurd List.mem_cons_self hk
                  · simp only [lent] at hk ⊢
                    rw [List.getElem?_set_ne (Ne.symm hm)]
                    cases em : env[m]? with
                    | none => rw [em] at hk; simp only at hk ⊢; rw [ih fun q => hk (List.mem_cons_of_mem _ q)]
                    | some y =>
                      cases y with
                      | none => rw [em] at hk; simp only at hk ⊢; rw [ih fun q => hk (List.mem_cons_of_mem _ q)]
                      | some y =>
                        cases y with
                        | val _ => rw [em] at hk; simp only at hk ⊢; exact ih hk
                        | own _ => rw [em] at hk; simp only at hk ⊢; rw [ih fun q => hk (List.mem_cons_of_mem _ q)]
                        | lck _ => rw [em] at hk; simp only at hk ⊢; rw [ih fun q => hk (List.mem_cons_of_mem _ q)]
            by_cases hki : k = i
            · subst hki
              refine .inr ⟨0, o, z, rfl, ek, rfl, ?_⟩
              rw [hb]
              rcases back_get (rs := rs) (outs := outs) (env := env.set k (some z)) (by rw [hl nk]; exact nd') k with ⟨_, h2⟩ | ⟨j, o', z', h1, h2, h3, h4⟩
              · rw [h2, List.getElem?_set_self (List.getElem?_eq_some_iff.mp ek).1]
              · -- lent twice
                exfalso
                have mem : ∀ {rs : List R} {j : Nat}, rs[j]? = some (R.loan k) → k ∈ lent env rs := by
                  intro rs
                  induction rs with
                  | nil => intro j h; simp at h
                  | cons r rs ih =>
                    intro j h
                    cases j with
                    | zero =>
                      simp at h
                      subst h
                      simp [lent, ek]
                    | succ j =>
                      have := ih (j := j) (by simpa using h)
                      cases r with
                      | loan m =>
                        simp only [lent]
                        split
                        · exact this
                        · exact List.mem_cons_of_mem _ this
                      | _ => exact this
                exact nk (mem h1)
            · exact step (env.set k (some z)) hb (hl nk) (fun _ _ => trivial) (List.getElem?_set_ne hki) (fun o' h => by cases h; exact absurd rfl hki) nd'
end
end G
namespace G
open PySem PySem.Spec PyProof.Rows L2

/-! # the call of a def -/
section
variable {K : PySem.W.Frag} {W : WX} {σ : L2.St} {env : Env} {H F : Hp} {fp : Nat → List Addr}
theorem AR.append {vs vs' : List V} {ivs : List Iv} {ls : List (List Addr)} {ts : List T} (h : AR K H F vs ivs ls) (d : DenAll K F vs' ts) : AR K H F (vs ++ vs') (ivs ++ ts.map Iv.val) (ls ++ ts.map fun _ => []) := by
  induction h with
  | nil =>
    clear vs ivs ls
    induction vs' generalizing ts with
    | nil => cases d; exact .nil
    | cons v vs' ih =>
      cases d with
      | cons d ds => exact .cons (.val d) (ih ds) fun a ha => by simp at ha
  | cons h hs dj ih =>
    refine .cons h ih fun a ha l' hl' => ?_
    rcases List.mem_append.mp hl' with hl' | hl'
    · exact dj a ha l' hl'
    · obtain ⟨_, _, rfl⟩ := List.mem_map.mp hl'
      simp
theorem back_len : ∀ {rs : List R} {outs : List Iv} {env : Env}, (back env rs outs).length = env.length
  | [], outs, env => by cases outs <;> rfl
  | r :: rs, [], env => by cases r <;> rfl
  | .val _ :: rs, z :: outs, env => back_len (rs := rs)
  | .new _ :: rs, z :: outs, env => back_len (rs := rs)
  | .loan i :: rs, z :: outs, env => by
    simp only [back]
    rw [back_len (rs := rs)]
    split
    · simp
    · rfl
theorem RRs.loanAt : ∀ {rs : List R} {vs : List V} {l : List Addr}, RRs K σ H F rs vs l → ∀ {j i : Nat}, rs[j]? = some (R.loan i) → ∃ v, vs[j]? = some v ∧ σ[i]? = some (some v)
  | _, _, _, .nil, j, i, h => by simp at h
  | _, _, _, .cons h hs d, 0, i, e => by
    simp at e
    subst e
    cases h with
    | loan q => exact ⟨_, rfl, q⟩
  | _, _, _, .cons h hs d, j + 1, i, e => by simpa using RRs.loanAt hs (j := j) (i := i) (by simpa using e)
theorem RRs.lens : ∀ {rs : List R} {vs : List V} {l : List Addr}, RRs K σ H F rs vs l → vs.length = rs.length
  | _, _, _, .nil => rfl
  | _, _, _, .cons h hs d => by rw [List.length_cons, List.length_cons, RRs.lens hs]
theorem argsOf_get : ∀ {rs : List R} {ivs : List Iv}, argsOf env rs = some ivs → ivs.length = rs.length ∧ ∀ {j : Nat} {r : R}, rs[j]? = some r → look env r = ivs[j]?
  | [], ivs, e => by simp [argsOf] at e; subst e; exact ⟨rfl, fun h => by simp at h⟩
  | r :: rs, ivs, e => by
    simp only [argsOf] at e
    cases e1 : look env r with
    | none => rw [e1] at e; simp at e
    | some iv =>
      cases e2 : argsOf env rs with
      | none => rw [e1, e2] at e; simp at e
      | some ivs' =>
        rw [e1, e2] at e
        simp at e
        subst e
        obtain ⟨h1, h2⟩ := argsOf_get e2
        refine ⟨by simp [h1], fun {j r'} h => ?_⟩
        cases j with
        | zero => simp at h; subst h; simpa using e1
        | succ j => simpa using h2 (j := j) (by simpa using h)
def isLn : Option (Option Iv) → Bool
  | some (some (.own _)) => true
  | some (some (.lck _)) => true
  | _ => false
theorem IvR.one {v : V} {iv : Iv} {l : List Addr} {a : Addr} (h : IvR K H F v iv l) (ha : a ∈ l) : l = [a] ∧ v = .ref a ∧ ∀ t, iv ≠ .val t := by
  cases h with
  | val d => simp at ha
  | own h => cases h <;> (simp at ha; subst ha; exact ⟨rfl, rfl, fun t => by simp⟩)
  | lck h => cases h <;> (simp at ha; subst ha; exact ⟨rfl, rfl, fun t => by simp⟩)
theorem IvR.ref {v : V} {iv : Iv} {l : List Addr} (h : IvR K H F v iv l) (hn : ∀ t, iv ≠ .val t) : ∃ a, v = .ref a ∧ l = [a] := by
  cases h with
  | val d => exact absurd rfl (hn _)
  | own h => cases h <;> exact ⟨_, rfl, rfl⟩
  | lck h => cases h <;> exact ⟨_, rfl, rfl⟩
/-- the caller's world behind a call -/
theorem call_back {H0 F0 H' F' : Hp} {P0 : Fp} {rs : List R} {vs dvs : List V} {l : List Addr} {ivs outs : List Iv} {dfl : List T} {fp' : Nat → List Addr} {ls : List (List Addr)}
    (E : EnvR K env σ H F fp) (s : Stp P0 H0 F0 (fpOf env fp) H F) (rr : RRs K σ H F rs vs l) (tm : Tmp H0 P0 F (fpOf env fp) l) (ha : argsOf env rs = some ivs) (nd : (lent env rs).Nodup)
    (ar : AR K H F vs ivs ls) (cl : ∀ (j : Nat) (r : R) (lj : List Addr), rs[j]? = some r → ls[j]? = some lj → (∃ i, r = R.loan i ∧ lj = fp i) ∨ ((∀ i, r ≠ R.loan i) ∧ ∀ a ∈ lj, a ∈ l))
    (E' : EnvR K (outs.map some) ((vs ++ dvs).map some) H' F' fp') (t : Stp (fpOf ((ivs ++ dfl.map Iv.val).map some) fun j => ((ls ++ dfl.map fun _ => [])[j]?).getD []) H F (fpOf (outs.map some) fp') H' F') :
    EnvR K (back env rs outs) σ H' F' (fun i => if isLn ((back env rs outs)[i]?) then fp i else []) ∧ Stp P0 H0 F0 (fpOf (back env rs outs) fun i => if isLn ((back env rs outs)[i]?) then fp i else []) H' F' ∧
    ∀ l', Tmp H (fpOf ((ivs ++ dfl.map Iv.val).map some) fun j => ((ls ++ dfl.map fun _ => [])[j]?).getD []) F' (fpOf (outs.map some) fp') l' → Tmp H0 P0 F' (fpOf (back env rs outs) fun i => if isLn ((back env rs outs)[i]?) then fp i else []) l' := by
  obtain ⟨la, ga⟩ := argsOf_get ha
  have lvs := rr.lens
  have lo : outs.length = (vs ++ dvs).length := by have := E'.len; simpa using this
  -- what the callee owned
  have co : ∀ a, (fpOf ((ivs ++ dfl.map Iv.val).map some) fun j => ((ls ++ dfl.map fun _ => [])[j]?).getD []).own a → (∃ (j i : Nat) (o : Ow), rs[j]? = some (R.loan i) ∧ env[i]? = some (some (Iv.own o)) ∧ a ∈ fp i) ∨ a ∈ l := by
    rintro a ⟨j, o, ej, hj⟩
    have hlt : j < ivs.length := by
      by_cases h : j < ivs.length
      · exact h
      · rw [List.getElem?_map, List.getElem?_append_right (by omega), List.getElem?_map] at ej
        cases q : dfl[j - ivs.length]? with
        | none => rw [q] at ej; simp at ej
        | some t => rw [q] at ej; simp at ej
    have eiv : ivs[j]? = some (Iv.own o) := by
      rw [List.getElem?_map, List.getElem?_append_left hlt] at ej
      simpa using ej
    obtain ⟨v, lj, g1, g2, g3⟩ := ar.get eiv
    have hj : a ∈ ((ls ++ dfl.map fun _ => [])[j]?).getD [] := hj
    rw [List.getElem?_append_left (by rw [ar.len.2]; exact hlt), g2] at hj
    have hj : a ∈ lj := hj
    obtain ⟨r, er⟩ : ∃ r, rs[j]? = some r := ⟨_, List.getElem?_eq_getElem (by omega)⟩
    rcases cl j r lj er g2 with ⟨i, rfl, rfl⟩ | ⟨_, z⟩
    · have hl := ga er
      rw [eiv] at hl
      simp only [look] at hl
      cases q : env[i]? with
      | none => rw [q] at hl; simp at hl
      | some x => rw [q] at hl; simp only at hl; subst hl; exact .inl ⟨j, i, o, er, q, hj⟩
    · exact .inr (z a hj)
  have co0 : ∀ a, (fpOf ((ivs ++ dfl.map Iv.val).map some) fun j => ((ls ++ dfl.map fun _ => [])[j]?).getD []).own a → P0.own a ∨ H0 a = none := fun a h => by
    rcases co a h with ⟨j, i, o, _, q, hi⟩ | h
    · exact s.own a ⟨i, o, q, hi⟩
    · exact (tm a h).2.2
  -- an address of a slot that the callee did not own
  have stay : ∀ i a, a ∈ fp i → (back env rs outs)[i]? = env[i]? → (∀ (j : Nat), rs[j]? = some (R.loan i) → (∃ o, env[i]? = some (some (Iv.own o))) → outs[j]? = none) → ¬ (fpOf ((ivs ++ dfl.map Iv.val).map some) fun j => ((ls ++ dfl.map fun _ => [])[j]?).getD []).own a := by
    intro i a hi _ hno h
    rcases co a h with ⟨j, i', o, ej, q, hi'⟩ | h
    · have := E.dis i i' a hi hi'
      subst this
      have z := hno j ej ⟨o, q⟩
      rw [List.getElem?_eq_none_iff] at z
      have := (List.getElem?_eq_some_iff.mp ej).1
      rw [lo, List.length_append] at z
      omega
    · exact (tm a h).2.1 ⟨i, hi⟩
  -- a lent slot
  have lentI : ∀ {j i : Nat} {o : Ow} {z : Iv}, rs[j]? = some (R.loan i) → env[i]? = some (some (Iv.own o)) → outs[j]? = some z → ∃ a, σ[i]? = some (some (V.ref a)) ∧ fp i = [a] ∧ IvR K H' F' (.ref a) z (fp' j) := by
    intro j i o z ej ei ez
    obtain ⟨v, g1, g2⟩ := rr.loanAt ej
    obtain ⟨v', k1, k2⟩ := E.slot i _ ei
    rw [g2] at k1
    cases k1
    obtain ⟨a, rfl, k3⟩ := k2.ref fun t => by simp
    obtain ⟨v', m1, m2⟩ := E'.slot j z (by rw [List.getElem?_map, ez]; rfl)
    have hlt : j < vs.length := (List.getElem?_eq_some_iff.mp g1).1
    rw [List.getElem?_map, List.getElem?_append_left hlt, g1] at m1
    cases m1
    exact ⟨a, g2, k3, m2⟩
  have sub : ∀ i a, a ∈ (if isLn ((back env rs outs)[i]?) = true then fp i else []) → a ∈ fp i := fun i a h => by
    split at h
    · exact h
    · simp at h
  have hE : EnvR K (back env rs outs) σ H' F' (fun i => if isLn ((back env rs outs)[i]?) then fp i else []) := by
    refine ⟨fun i iv ei => ?_, fun i hi => ?_, fun i k a hi hk => E.dis i k a (sub i a hi) (sub k a hk), fun i a hi => ?_, E'.sub, by rw [back_len]; exact E.len⟩
    · rcases back_get (rs := rs) (outs := outs) nd i with ⟨hno, hb⟩ | ⟨j, o, z, ej, eo, ez, hb⟩
      · obtain ⟨v, g1, g2⟩ := E.slot i iv (by rw [← hb]; exact ei)
        refine ⟨v, g1, ?_⟩
        rw [ei]
        cases iv with
        | val tt =>
          cases hl : fp i with
          | nil => rw [hl] at g2; cases g2 with | val d => exact .val (d.mono t.fz)
          | cons a as =>
            obtain ⟨_, _, z⟩ := g2.one (a := a) (by rw [hl]; exact List.mem_cons_self)
            exact absurd rfl (z _)
        | own o =>
          refine g2.keep (fun a ha => ?_) t.fz
          cases e : H a with
          | none => exact absurd e (g2.here a ha)
          | some ob => exact t.keep a ob e (stay i a ha hb hno)
        | lck o =>
          refine g2.keep (fun a ha => ?_) t.fz
          cases e : H a with
          | none => exact absurd e (g2.here a ha)
          | some ob => exact t.keep a ob e (stay i a ha hb hno)
      · rw [hb] at ei
        cases ei
        obtain ⟨a, g1, g2, g3⟩ := lentI ej eo ez
        refine ⟨_, g1, ?_⟩
        rw [hb]
        cases iv with
        | val tt =>
          cases hl : fp' j with
          | nil => rw [hl] at g3; exact g3
          | cons b bs =>
            obtain ⟨_, _, z⟩ := g3.one (a := b) (by rw [hl]; exact List.mem_cons_self)
            exact absurd rfl (z _)
        | own o' =>
          obtain ⟨b, hb', hl⟩ := g3.ref fun t => by simp
          cases hb'
          show IvR K H' F' _ _ (fp i)
          rw [g2, ← hl]
          exact g3
        | lck o' =>
          obtain ⟨b, hb', hl⟩ := g3.ref fun t => by simp
          cases hb'
          show IvR K H' F' _ _ (fp i)
          rw [g2, ← hl]
          exact g3
    · cases q : (back env rs outs)[i]? with
      | none => simp [isLn]
      | some x =>
        cases x with
        | none => simp [isLn]
        | some iv => exact absurd q (hi iv)
    · have hi' := sub i a hi
      cases e : F' a with
      | none => rfl
      | some ob =>
        exfalso
        rcases t.nfz a (by rw [e]; simp) with z | z | z
        · exact z (E.free i a hi')
        · rcases back_get (rs := rs) (outs := outs) nd i with ⟨hno, hb⟩ | ⟨j, o, z', ej, eo, ez, hb⟩
          · exact stay i a hi' hb hno z
          · rw [hb] at hi
            obtain ⟨b, g1, g2, g3⟩ := lentI ej eo ez
            cases z' with
            | val t => simp [isLn] at hi
            | own o' =>
              obtain ⟨c, hb', hl⟩ := g3.ref fun t => by simp
              cases hb'
              rw [g2] at hi'
              have := E'.free j a (by rw [hl]; exact hi')
              rw [e] at this; cases this
            | lck o' =>
              obtain ⟨c, hb', hl⟩ := g3.ref fun t => by simp
              cases hb'
              rw [g2] at hi'
              have := E'.free j a (by rw [hl]; exact hi')
              rw [e] at this; cases this
        · exact E.here i a hi' z
  refine ⟨hE, ⟨fun a ob e hn => ?_, s.fz.trans t.fz, fun a h => ?_, ?_, ?_, ?_⟩, ?_⟩
  · exact t.keep a ob (s.keep a ob e hn) fun h => (co0 a h).elim hn fun z => by rw [e] at z; cases z
  · rcases t.nfz a h with h | h | h
    · exact s.nfz a h
    · exact .inr (co0 a h)
    · exact .inr (s.back h)
  · rintro a ⟨i, o, ei, hi⟩
    have hi' := sub i a hi
    rcases back_get (rs := rs) (outs := outs) nd i with ⟨hno, hb⟩ | ⟨j, o', z', ej, eo, ez, hb⟩
    · exact s.own a ⟨i, o, by rw [← hb]; exact ei, hi'⟩
    · exact s.own a ⟨i, o', eo, hi'⟩
  · rintro a ⟨i, hi⟩
    exact s.all a ⟨i, sub i a hi⟩
  · rintro i a ⟨o, ei, hi⟩
    have hi' := sub i a hi
    rcases back_get (rs := rs) (outs := outs) nd i with ⟨hno, hb⟩ | ⟨j, o', z', ej, eo, ez, hb⟩
    · exact s.lk i a ⟨o, by rw [← hb]; exact ei, hi'⟩
    · exfalso
      rw [hb] at ei
      cases ei
      obtain ⟨b, g1, g2, g3⟩ := lentI ej eo ez
      obtain ⟨c, hb', hl⟩ := g3.ref fun t => by simp
      obtain ⟨o3, q, _⟩ := t.lk j c ⟨o, by rw [List.getElem?_map, ez]; rfl, by rw [hl]; exact List.mem_cons_self⟩
      have hlt : j < ivs.length := by have := (List.getElem?_eq_some_iff.mp ej).1; omega
      rw [List.getElem?_map, List.getElem?_append_left hlt, ← ga ej] at q
      simp only [look, eo] at q
      cases q
  · intro l' tl a ha'
    obtain ⟨h1, h2, h3⟩ := tl a ha'
    refine ⟨h1, ?_, ?_⟩
    · rintro ⟨i, hi⟩
      have hi' := sub i a hi
      rcases h3 with h3 | h3
      · rcases back_get (rs := rs) (outs := outs) nd i with ⟨hno, hb⟩ | ⟨j, o', z', ej, eo, ez, hb⟩
        · exact stay i a hi' hb hno h3
        · have hi : a ∈ (if isLn ((back env rs outs)[i]?) = true then fp i else []) := hi
          rw [hb] at hi
          obtain ⟨b, g1, g2, g3⟩ := lentI ej eo ez
          cases z' with
          | val t => simp [isLn] at hi
          | own o' =>
            obtain ⟨c, hb', hl⟩ := g3.ref fun t => by simp
            cases hb'
            exact h2 ⟨j, by rw [hl, ← g2]; exact hi'⟩
          | lck o' =>
            obtain ⟨c, hb', hl⟩ := g3.ref fun t => by simp
            cases hb'
            exact h2 ⟨j, by rw [hl, ← g2]; exact hi'⟩
      · exact E.here i a hi' h3
    · exact h3.elim (co0 a) s.back
end
end G
namespace G
open PySem PySem.Spec PyProof.Rows L2

section
variable {gq : Bool} {X : Cx} {W : WX} {k : Nat} {f : Addr} {fd : FuncData} {ps : List Str} {dvs : List V} {ds : List Value} {x : Str} {p pos : Pos} {es : List Expr} {C : Nat → List Iv → Res} {fi : Nat} {dfl : List T} {m : Env → Out (List R)}
theorem run_g {pins : List (Addr × Obj)} {σ : L2.St} {H : Hp} {s : Shared} {Q : VK} {us : List Value} {vs : List V} {sp : Sp} (Fn : FnG gq X.prog X.w X.K X.mg X.base k f fd ps sp) (hr : Room k X.A) (hgd : gq = true → X.A.guards = some []) (hb : Binds X.K fd ps ds) (hd : Vals dvs ds) (tk : Takes X W)
    (I : Inv X pins σ H s) (r : Vals vs us) (h : sp (vs ++ dvs) H Q fun cls d H' => W cls d σ H') : wpAny (model X.prog X.w) X.A (call (.ref f) us) (EP X pins σ Q) X.xe s := by
  have r2 : Vals (vs ++ dvs) (us ++ ds) := r.append hd
  have hl : (us ++ ds).length = ps.length := by rw [← r2.length]; exact Fn.len _ _ _ _ h
  refine wpAny_call (codeAny_mono (Fn.run X.A X.stack s H ⟨us, []⟩ (us ++ ds) (vs ++ dvs) Q _ hr hgd I.env0 (hb s us I.kIn hl) r2 h) fun r s' hq => ?_)
  cases r with
  | error e => exact tk e s' (XE.of_call I (fun _ _ _ q => q) hq)
  | ok fl =>
    cases fl with
    | ret u => exact I.after hq
    | next => exact False.elim hq
    | brk => exact False.elim hq
    | cont => exact False.elim hq
/-- the meaning of a call, in the worlds -/
theorem call_sp {K : PySem.W.Frag} {W : WX} {σ : L2.St} {env : Env} {H F H0 F0 : Hp} {fp : Nat → List Addr} {P0 : Fp} {rs : List R} {vs dvs : List V} {l : List Addr} {dfl : List T} {Q : VK}
    (E : EnvR K env σ H F fp) (s : Stp P0 H0 F0 (fpOf env fp) H F) (rr : RRs K σ H F rs vs l) (tm : Tmp H0 P0 F (fpOf env fp) l) (dd : DenAll K F dvs dfl)
    (q : (callR C fi dfl env rs).asks K W σ H0 F0 P0 (Ask K σ H0 P0 Q)) : spF K (C fi) (vs ++ dvs) H Q fun cls d H' => W cls d σ H' := by
  unfold callR at q
  cases e1 : argsOf env rs with
  | none => rw [e1] at q; exact q.elim
  | some ivs =>
    rw [e1] at q
    simp only at q
    split at q
    · rename_i nd
      obtain ⟨ls, ar, cl, cl2⟩ := args_ok E rr (fun a ha => (tm a ha).2.1) e1 nd
      have hF : ∀ lj ∈ ls, ∀ a ∈ lj, F a = none := fun lj hlj a ha => by
        rcases cl2 lj hlj with z | ⟨i, _, rfl⟩
        · exact (tm a (z a ha)).1
        · exact E.free i a ha
      refine ⟨ivs ++ dfl.map Iv.val, F, _, (ar.append dd).toEnv E.sub fun lj hlj a ha => ?_, ?_⟩
      · rcases List.mem_append.mp hlj with hlj | hlj
        · exact hF lj hlj a ha
        · obtain ⟨_, _, rfl⟩ := List.mem_map.mp hlj
          simp at ha
      · cases ec : C fi (ivs ++ dfl.map Iv.val) with
        | stuck => rw [ec] at q; exact q.elim
        | exc x outs =>
          rw [ec] at q
          intro cls d H' F' fp' E' t xr
          obtain ⟨hE, hS, _⟩ := call_back E s rr tm e1 nd ar cl E' t
          exact q cls d H' F' _ hE hS xr
        | ok r outs =>
          rw [ec] at q
          intro H' F' fp' E' t v l' iv tl
          obtain ⟨hE, hS, hT⟩ := call_back E s rr tm e1 nd ar cl E' t
          cases r with
          | val t' => exact q H' F' _ hE hS v l' (by cases iv with | val d => exact .val d) (hT _ tl)
          | own o => exact q H' F' _ hE hS v l' (by cases iv with | own d => exact .new d) (hT _ tl)
          | lck o => exact q.elim
    · exact q.elim
theorem se_call {e : Expr} (Fn : FnG gq X.prog X.w X.K X.mg X.base k f fd ps (spF X.K (C fi))) (hr : Room k X.A) (hgd : gq = true → X.A.guards = some []) (hg : Gl X x) (hm : X.mg x = some (.ref f)) (hk : PySem.W.keepIn X.K (.ref f) = true) (hb : Binds X.K fd ps ds) (hd : Vals dvs ds) (hdd : ∀ F, DenAll X.K F dvs dfl)
    (tk : Takes X W) (ha : PA X (e :: es) (tA X.K W m)) (hdb : (x == ("__debug__" : Str)) = false) (hns : noStar (e :: es) = true) :
    PE X (.Call (.Name x p) (e :: es) [] pos) (tE X.K W fun env => (m env).bind fun rs e1 => callR C fi dfl e1 rs) := by
  refine ⟨fun pins s σ H Q I h => ?_⟩
  refine wpAny_Call_Name_kw (ld_glob I hg hm ?_ hdb)
  obtain ⟨env, F, fp, E, q⟩ := h
  have t := tA_intro (Q := fun vs H1 => spF X.K (C fi) (vs ++ dvs) H1 Q fun cls d H' => W cls d σ H') E Stp.refl q fun rs env2 H2 F2 fp2 vs l E2 s2 rr tm qq => call_sp E2 s2 rr tm (hdd F2) qq
  have h2 : noStarE e = true ∧ noStar es = true := by simpa [noStar] using hns
  refine PySem.W.callWith_K (h₀ := X.base) I.ok.mod.kin hk (thn (ha.run pos pins s σ H _ I t) fun us s1 ⟨vs, H1, I1, r, q⟩ => ⟨I1.kIn, ?_⟩) (star_cons h2.1) (star_any h2.2)
  exact run_g Fn hr hgd hb hd tk I1 r q
theorem se_call0 (Fn : FnG gq X.prog X.w X.K X.mg X.base k f fd ps (spF X.K (C fi))) (hr : Room k X.A) (hgd : gq = true → X.A.guards = some []) (hg : Gl X x) (hm : X.mg x = some (.ref f)) (hk : PySem.W.keepIn X.K (.ref f) = true) (hb : Binds X.K fd ps ds) (hd : Vals dvs ds) (hdd : ∀ F, DenAll X.K F dvs dfl)
    (tk : Takes X W) (hdb : (x == ("__debug__" : Str)) = false) :
    PE X (.Call (.Name x p) [] [] pos) (tE X.K W fun env => callR C fi dfl env []) := by
  refine ⟨fun pins s σ H Q I h => ?_⟩
  refine wpAny_Call_Name_kw (ld_glob I hg hm ?_ hdb)
  obtain ⟨env, F, fp, E, q⟩ := h
  have t := call_sp (vs := []) (l := []) E Stp.refl .nil .nil (hdd F) q
  exact PySem.W.callWith_K0 I.kIn hk (run_g (us := []) Fn hr hgd hb hd tk I .nil t)
end

/-! # a def of the text -/
theorem guards_deeper {A : Around} {env : PySem.Env} (h : A.guards = some []) : (A.deeper env).guards = some [] := h
theorem fn_g {gq : Bool} {P : Program} {w : World} {K : PySem.W.Frag} {mg : Str → Option Value} {base : Heap} {k : Nat} {f : Addr} {name qual : Str} {params : Arguments} {body : List Stmt} {scope : Scope} {dV kV doc pm cdv ct oc : Value} {an od : Option Addr}
    {slots0 : Array (Option Value)} {N ps : List Str} {sp : Sp} (look0 : K.lookup f = some ⟨oc, od, .func (PySem.W.fnOf name qual params body scope dV kV doc pm an cdv ct), slots0⟩) (code0 : PySem.W.codeIn K cdv qual = true) (S : FnScope N ps scope)
    (lens : ∀ vs H Q E, sp vs H Q E → vs.length = ps.length)
    (hbody : ∀ (A : Around) (frs0 : List PySem.Env) (s : Shared) (H : Hp) (vs : List V) (Q : VK) (E : XK), Room k (A.deeper (envOfC qual scope s.heap.objs.size f cdv)) → (gq = true → A.guards = some []) → sp vs H Q E →
      ∃ t, PSs (cxOf (CX P w) P w K mg base N qual scope f cdv A frs0 s H E) body t ∧ t { nx := fun _ H' => Q .non H', rt := Q } (start N vs) H) :
    FnG gq P w K mg base (k + 1) f (PySem.W.fnOf name qual params body scope dV kV doc pm an cdv ct) ps sp := by
  refine ⟨lens, fun A frs0 s H args us vs Q E hr gd here0 hb r want => ?_⟩
  have hlen := lens _ _ _ _ want
  have kin1 : K.In s.heap := here0.mod.kin.keeps fun b o e => (here0.bs b o e).1
  have nol : s.heap.NoLimit := here0.mod.nolimit.keeps fun b o e => (here0.bs b o e).1
  have kinds : ∀ y ∈ ps.zip us, scope.names.lookup y.1 = some .local ∨ (scope.names.lookup y.1 = some .cell ∧ ((cellsFrom (s.heap.objs.size + 1) scope.names []).lookup y.1).isSome = true) := fun ⟨n, v⟩ hy => by
    rcases S.par n (List.of_mem_zip hy).1 with here | here
    · exact Or.inl here
    · exact Or.inr ⟨here, PySem.W.cellsFrom_some _ _ _ (.inl here)⟩
  refine codeAny_call_function hr.depth (kin1 _ _ look0) rfl S.co S.gen rfl (PySem.W.codeRec_of kin1 code0) (hb _ _ _ _ ?_)
  refine wpAny_newFunctionEnv_cells S.kind kinds fun env he s1 x => ?_
  subst he
  refine ⟨nol.keeps x.toInCall.keep, codeAny_func ?_⟩
  obtain ⟨t, walk, reads⟩ := hbody A frs0 s H vs Q E (hr.deeper _) gd want
  have I : Inv (cxOf (CX P w) P w K mg base N qual scope f cdv A frs0 s H E) [] (start N vs) H s1 := inv_start S hr.hd here0 hlen r x
  refine wpAny_mono (walk.run [] s1 (start N vs) H _ I reads) (fun fl s' res => ?_) fun e s' res => res
  have ending : ∀ {σ' : L2.St} {H' : Hp} {v : V} {u : Value}, Inv (cxOf (CX P w) P w K mg base N qual scope f cdv A frs0 s H E) [] σ' H' s' → RelV v u → Q v H' → CE frs0 P w H s Q u s' :=
    fun {σ' H' v u} J rv q => ⟨v, H', J.os, J.bare, J.base, J.hok, rv, q⟩
  cases fl with
  | ret u =>
    obtain ⟨v, σ', H', J, rv, q⟩ := res
    exact ending J rv q
  | next =>
    obtain ⟨σ', H', J, q⟩ := res
    exact ending (v := V.non) (u := Value.none) J rfl q
  | brk =>
    obtain ⟨_, _, _, q⟩ := res
    exact False.elim q
  | cont =>
    obtain ⟨_, _, _, q⟩ := res
    exact False.elim q
end G
namespace G
open PySem PySem.Spec PyProof.Rows L2

/-! # sorted by length, then by the items -/
theorem lexI_le : ∀ a b : List Int, lexI a b = decide (a ≤ b)
  | [], b => by simp [lexI]
  | x :: xs, [] => by simp [lexI]
  | x :: xs, y :: ys => by
    unfold lexI
    rw [lexI_le xs ys, Bool.eq_iff_iff]
    simp [List.cons_le_cons_iff]
theorem leLF_iff {a b : List Int} : leLF a b = true ↔ a.length < b.length ∨ (a.length = b.length ∧ a ≤ b) := by
  unfold leLF; rw [lexI_le]; simp
theorem leLF_trans {a b c : List Int} (h : leLF a b = true) (k : leLF b c = true) : leLF a c = true := by
  rw [leLF_iff] at *
  rcases h with h | ⟨h1, h2⟩
  · rcases k with k | ⟨k1, k2⟩
    · exact .inl (by omega)
    · exact .inl (by omega)
  · rcases k with k | ⟨k1, k2⟩
    · exact .inl (by omega)
    · exact .inr ⟨by omega, List.le_trans h2 k2⟩
theorem leLF_total (a b : List Int) : (leLF a b || leLF b a) = true := by
  rw [Bool.or_eq_true, leLF_iff, leLF_iff]
  rcases Nat.lt_trichotomy a.length b.length with h | h | h
  · exact .inl (.inl h)
  · rcases List.le_total a b with q | q
    · exact .inl (.inr ⟨h, q⟩)
    · exact .inr (.inr ⟨h.symm, q⟩)
  · exact .inr (.inl h)
theorem leLF_anti {a b : List Int} (h : leLF a b = true) (k : leLF b a = true) : a = b := by
  rw [leLF_iff] at *
  rcases h with h | ⟨h1, h2⟩
  · rcases k with k | ⟨k1, k2⟩ <;> omega
  · rcases k with k | ⟨k1, k2⟩
    · omega
    · exact List.le_antisymm h2 k2
theorem insLF_perm (x : List Int) : ∀ l : List (List Int), (insLF x l).Perm (x :: l)
  | [] => .refl _
  | y :: ys => by
    unfold insLF
    split
    · exact .refl _
    · exact (List.Perm.cons y (insLF_perm x ys)).trans (List.Perm.swap x y ys)
theorem sortLF_perm : ∀ l : List (List Int), (sortLF l).Perm l
  | [] => .refl _
  | x :: l => (insLF_perm x _).trans ((sortLF_perm l).cons x)
theorem insLF_srt (x : List Int) : ∀ l : List (List Int), l.Pairwise (fun a b => leLF a b = true) → (insLF x l).Pairwise fun a b => leLF a b = true
  | [], _ => by simp [insLF]
  | y :: ys, h => by
    unfold insLF
    split
    · rename_i hxy
      refine List.pairwise_cons.mpr ⟨fun z hz => ?_, h⟩
      rcases List.mem_cons.mp hz with e | hz
      · rw [e]; exact hxy
      · exact leLF_trans hxy ((List.pairwise_cons.mp h).1 z hz)
    · rename_i hxy
      refine List.pairwise_cons.mpr ⟨fun z hz => ?_, insLF_srt x ys (List.pairwise_cons.mp h).2⟩
      rcases List.mem_cons.mp ((insLF_perm x ys).mem_iff.mp hz) with e | hz
      · rw [e]
        have := leLF_total x y
        simpa [hxy] using this
      · exact (List.pairwise_cons.mp h).1 z hz
theorem sortLF_srt : ∀ l : List (List Int), (sortLF l).Pairwise fun a b => leLF a b = true
  | [] => .nil
  | x :: l => insLF_srt x _ (sortLF_srt l)
def lfKey (ns : List Int) : PyData := .tuple [.int (ns.length : Int), .tuple (ns.map .int)]
theorem eqvAll_i : ∀ xs ys : List Int, PyData.eqvAll (xs.map .int) (ys.map .int) = decide (xs = ys)
  | [], [] => by simp [PyData.eqvAll]
  | [], _ :: _ => by simp [PyData.eqvAll]
  | _ :: _, [] => by simp [PyData.eqvAll]
  | x :: xs, y :: ys => by
    simp only [List.map_cons, PyData.eqvAll, PyData.eqv, eqvAll_i xs ys]
    rw [Bool.eq_iff_iff]
    simp
theorem dataLe_lf : PySem.W.dataLe false lfKey = leLF := by
  funext a b
  show (!PySem.W.dataLt (lfKey b) (lfKey a)) = _
  unfold lfKey
  have al : ∀ xs ys : List Int, PySem.W.alike (.tuple (xs.map .int)) (.tuple (ys.map .int)) = true := fun xs ys => by
    simp only [PySem.W.alike]; exact PySem.W.alike_ints xs ys
  rw [PySem.W.dataLt_pair (by simp [PySem.W.alike]) (al b a), PySem.W.dataLt_int]
  have e1 : PyData.eqv (.tuple (b.map .int)) (.tuple (a.map .int)) = decide (b = a) := eqvAll_i b a
  have e0 : PyData.eqv (.int (b.length : Int)) (.int (a.length : Int)) = decide ((b.length : Int) = a.length) := by simp only [PyData.eqv]; rw [Bool.eq_iff_iff]; simp
  have e2 : PySem.W.dataLt (.tuple (b.map .int)) (.tuple (a.map .int)) = decide (b < a) := by
    rw [PySem.W.dataLt_tuple]; exact PySem.W.dataLt_ints b a
  simp only [e0, e1, e2, decide_eq_true_eq]
  rw [Bool.eq_iff_iff, leLF_iff]
  have ol : ((b.length : Int) = a.length) ↔ b.length = a.length := by omega
  have ll : ((b.length : Int) < a.length) ↔ b.length < a.length := by omega
  by_cases h1 : b.length = a.length
  · have h1' : (b.length : Int) = a.length := by omega
    by_cases h2 : b = a
    · subst h2
      simp
    · by_cases h3 : b < a
      · simp [h1', h2, h3]
        omega
      · simp [h1', h2, h3]
        exact .inr ⟨h1.symm, List.not_lt.mp h3⟩
  · have h1' : ¬ (b.length : Int) = a.length := by omega
    simp [h1', ll]
    omega
theorem sortLF_eq (l : List (List Int)) : l.mergeSort (PySem.W.dataLe false lfKey) = sortLF l := by
  rw [dataLe_lf]
  exact List.Perm.eq_of_pairwise (fun a b _ _ h k => leLF_anti h k) (List.pairwise_mergeSort (le := leLF) (fun a b c h k => leLF_trans h k) leLF_total l) (sortLF_srt l) ((List.mergeSort_perm l leLF).trans (sortLF_perm l).symm)
end G
namespace G
open PySem PySem.Spec PyProof.Rows L2

/-! # a key that is a text of the program: (len(x), x) -/
/-- the def's text -/
def lfText (st : Stmt) : Option Str := match defBody st with
  | [.Return (some (.Tuple [.Call (.Name l _) [.Name x _] [] _, .Name y _] _ _)) _] => if l = ("len" : Str) ∧ x = y ∧ (defScope st).names.lookup x = some .local ∧ (defScope st).names.lookup l = some .globalImplicit ∧ x ≠ ("__debug__" : Str) then some x else none
  | _ => none
theorem reads_ints {h : Heap} : ∀ {ns : List Int} {its : List Value}, Vals (ns.map V.int) its → ReadsAll h its (ns.map .int) []
  | [], _, .nil => .nil
  | n :: ns, _, .cons r rs => by
    obtain ⟨t, rfl⟩ := r
    exact .cons (as := []) (bs := []) (.int n t) (reads_ints rs)
theorem reads_tup {h : Heap} {a : Addr} {ns : List Int} {its : List Value} (ht : IsTup h a its.toArray) (r : Vals (ns.map V.int) its) : Reads h (.ref a) (.tuple (ns.map .int)) [] := by
  obtain ⟨o, e, hc, n, hd⟩ := ht
  exact .tuple e hc hd (by simpa using reads_ints r)
structure LfOk (K : PySem.W.Frag) (mg : Str → Option Value) (f : Addr) : Prop where
  ex : ∃ (x p : Str) (st : Stmt) (oc : Value) (od : Option Addr) (dV kV doc pm : Value) (an : Option Addr) (cdv ct : Value) (osl : Array (Option Value)) (fd : FuncData),
    fd = PySem.W.fnOf x x (defArgs st) (defBody st) (defScope st) dV kV doc pm an cdv ct ∧ K.lookup f = some ⟨oc, od, .func fd, osl⟩ ∧ PySem.W.codeIn K cdv x = true ∧ lfText st = some p ∧ FnScope [p] [p] (defScope st) ∧ Binds K fd [p] []
  len : mg "len" = none
theorem lf_call {P : Program} {w : World} {K : PySem.W.Frag} {mg : Str → Option Value} {base : Heap} {A : Around} {s : Shared} {f a : Addr} {ns : List Int} {its : List Value} (L : LfOk K mg f) (M : Mod K mg base) (kb : ∀ b o, base.get? b = some o → s.heap.get? b = some o)
    (hdep : A.depth < recursionLimit) (ht : IsTup s.heap a its.toArray) (r : Vals (ns.map V.int) its) (hz : ns.length ≤ sizeLine) :
    wpAny (model P w) A (call (.ref f) [.ref a]) (PySem.W.KeyPure (lfKey ns) s) (fun _ _ => False) s := by
  obtain ⟨⟨x, p, st, oc, od, dV, kV, doc, pm, an, cdv, ct, osl, fd, rfl, lk, hcd, hb, S, hbd⟩, hlen⟩ := L
  have KX : K.In s.heap := M.kin.keeps kb
  have lim := M.nolimit.keeps kb
  obtain ⟨mb, nb, hbb⟩ := M.blt
  unfold lfText at hb
  split at hb
  · rename_i l q1 y q2 q3 z q4 kk q5 q6 eb
    split at hb
    · rename_i hc
      obtain ⟨e1, e2, hx, hl, hdb⟩ := hc
      subst e1 e2
      injection hb with hb
      subst hb
      refine wpAny_call (codeAny_call_function hdep (KX _ _ lk) rfl S.co S.gen rfl (PySem.W.codeRec_of KX hcd) (hbd s [.ref a] KX rfl _ _ _ _ ?_))
      refine wpAny_newFunctionEnv_cells S.kind (fun q hq => ?_) fun env he s1 xx => ?_
      · have hq := List.mem_singleton.mp hq
        subst hq
        exact .inl hx
      · subst he
        refine ⟨lim.keeps xx.toInCall.keep, codeAny_func ?_⟩
        obtain ⟨h1, tk, rfl, hk⟩ := xx.done
        have ke : ∀ z, (envOfC x (defScope st) s.heap.objs.size f cdv).kindOf z = (defScope st).names.lookup z := fun z => rfl
        have nl : h1.Ns s.heap.objs.size (bindL (envOfC x (defScope st) s.heap.objs.size f cdv).kindOf [(y, .ref a)] fun _ => none) := xx.toInCall.ns
        have hy : bindL (envOfC x (defScope st) s.heap.objs.size f cdv).kindOf [(y, .ref a)] (fun _ => none) y = some (.ref a) := by
          have := bindL_get (kindOf := (envOfC x (defScope st) s.heap.objs.size f cdv).kindOf) (x := y) (v := .ref a) (P := [y]) (vs := [.ref a]) (i := 0) (m := fun _ => none) (by simp) rfl rfl (by rw [ke]; exact hx)
          exact this
        have k1 : ∀ b o, base.get? b = some o → h1.get? b = some o := fun b o e => hk b o (kb b o e)
        have gl : ∀ (toks : Nat) {A' : Around} {Q : Value → Shared → Prop} {E : Value → Shared → Prop}, Q (.builtin "len") { s with heap := h1, toks := toks } → wpAny (model P w) A' (eval (.Name "len" q1) (envOfC x (defScope st) s.heap.objs.size f cdv)) Q E { s with heap := h1, toks := toks } := fun toks {A' Q E} q =>
          Calls.Name_function_global S.kind hl (Calls.loadGlobal_builtin (M.glob.keeps k1) hlen (nb.keeps k1) ((hbb _ (by decide)).trans PySem.boot_len) q)
        have ly : ∀ (toks : Nat) {A' : Around} {Q : Value → Shared → Prop} {E : Value → Shared → Prop} {pp : Pos}, Q (.ref a) { s with heap := h1, toks := toks } → wpAny (model P w) A' (eval (.Name y pp) (envOfC x (defScope st) s.heap.objs.size f cdv)) Q E { s with heap := h1, toks := toks } := fun toks {A' Q E pp} q =>
          wpAny_Name (wpAny_loadName_local S.kind hx nl hy q) (by simpa using hdb)
        have ht1 : IsTup h1 a its.toArray := ht.keeps hk
        have hlv : its.length = ns.length := by rw [← r.length, List.length_map]
        have hline := line63
        show wpAny (model P w) (A.deeper (envOfC x (defScope st) s.heap.objs.size f cdv)) (execs (defBody st) (envOfC x (defScope st) s.heap.objs.size f cdv)) _ _ _
        rw [eb]
        refine wpAny_execs_cons (wpAny_Return_some (Tuple_ ?_))
        show wpAny _ _ (spliced ((false, eval (.Call (.Name "len" q1) [.Name y q2] [] q3) (envOfC x (defScope st) s.heap.objs.size f cdv)) :: backTo q5 (starEach [.Name y q4] (envOfC x (defScope st) s.heap.objs.size f cdv)))) _ _ _
        refine Calls.spliced_cons ?_
        refine wpAny_Call_Name_kw (gl tk ?_)
        refine PyProof.Rows.callWith_builtin1 ?_ rfl rfl
        show wpAny _ _ (spliced ((false, eval (.Name y q2) (envOfC x (defScope st) s.heap.objs.size f cdv)) :: backTo q3 (starEach [] (envOfC x (defScope st) s.heap.objs.size f cdv)))) _ _ _
        refine Calls.spliced_cons (ly tk ?_)
        refine Calls.spliced_nil ?_
        refine len_tuple ht1 (by rw [List.size_toArray, hlv]; omega) ?_
        show wpAny _ _ (spliced ((false, eval (.Name y q4) (envOfC x (defScope st) s.heap.objs.size f cdv)) :: backTo q5 (starEach [] (envOfC x (defScope st) s.heap.objs.size f cdv)))) _ _ _
        refine Calls.spliced_cons (ly _ ?_)
        refine Calls.spliced_nil ?_
        refine wpAny_newObj_type ?_ (by show 2 ≤ sizeLine; decide)
        refine ⟨_, _, rfl, fun b o e => Heap.get?_push_of_some _ (hk b o e), ?_⟩
        refine .tuple (Heap.get?_push_size _ rfl) rfl rfl (.cons (as := []) (bs := []) ?_ (.cons (as := []) (bs := []) ?_ .nil))
        · rw [List.size_toArray, hlv]
          exact .int _ _
        · exact reads_tup (ht1.keeps fun b o e => Heap.get?_push_of_some _ e) r
    · cases hb
  · cases hb
end G
namespace G
open PySem PySem.Spec PyProof.Rows L2

theorem rowsI_den {K : PySem.W.Frag} {F : Hp} : ∀ {xs : List T} {vs : List V} {bs : List (List Int)}, rowsI xs = some bs → DenAll K F vs xs → DenAll K F vs (bs.map rowT)
  | [], vs, bs, h, d => by cases h; exact d
  | x :: xs, vs, bs, h, d => by
    cases x with
    | tup ts =>
      simp only [rowsI, Option.bind_eq_some_iff, Option.map_eq_some_iff] at h
      obtain ⟨ns, hn, bs', hb, rfl⟩ := h
      cases d with
      | cons d ds =>
        refine .cons ?_ (rowsI_den hb ds)
        have e : ts = ns.map T.int := by
          clear d ds
          induction ts generalizing ns with
          | nil => simp [intsT] at hn; subst hn; rfl
          | cons t ts ih =>
            cases t <;> simp [intsT] at hn
            obtain ⟨a, ha, rfl⟩ := hn
            rw [ih a ha]
            rfl
        subst e
        exact d
    | _ => simp [rowsI] at h
def rLF (K : PySem.W.Frag) (f : Addr) : List V → List V → Hp → VK → Prop := fun vs zs H Q => ∃ (F : Hp) (a : Addr) (ws : List V) (bs : List (List Int)), Same F H ∧ vs = [.ref a] ∧ zs = [.ref f] ∧ SqL K H a ws ∧ DenAll K F ws (bs.map rowT) ∧ bs.length ≤ sizeLine ∧
  ∀ p vs', H p = none → DenAll K F vs' ((sortLF bs).map rowT) → Q (.ref p) (upd H p (.lst vs'))
theorem each_of {K : PySem.W.Frag} {F : Hp} : ∀ {ws : List V} {its : List Value} {bs : List (List Int)}, Vals ws its → DenAll K F ws (bs.map rowT) → PySem.W.EachIs (fun v ns => ∃ u, RelV u v ∧ Den K F u (rowT ns)) its bs
  | _, _, [], .nil, _ => .nil
  | _, _, b :: bs, .cons r rs, d => by
    cases d with
    | cons d ds => exact .cons ⟨_, r, d⟩ (each_of rs ds)
  | _, _, b :: bs, .nil, d => by cases d
  | _, _, [], .cons _ _, d => by cases d
theorem of_each {K : PySem.W.Frag} {F : Hp} : ∀ {its : List Value} {bs : List (List Int)}, PySem.W.EachIs (fun v ns => ∃ u, RelV u v ∧ Den K F u (rowT ns)) its bs → ∃ ws, Vals ws its ∧ DenAll K F ws (bs.map rowT)
  | _, _, .nil => ⟨[], .nil, .nil⟩
  | _, _, .cons h hs => by
    obtain ⟨u, hr, hd⟩ := h
    obtain ⟨ws, h1, h2⟩ := of_each hs
    exact ⟨u :: ws, .cons hr h1, .cons hd h2⟩
theorem depth0 : ∀ x : List Int, PyData.depthAll (x.map .int) = 0
  | [] => by simp [PyData.depthAll]
  | y :: ys => by simp [PyData.depthAll, PyData.depth, depth0 ys]
theorem cr_sortLF {X : Cx} {f : Addr} (L : LfOk X.K X.mg f) (hdep : X.A.depth < recursionLimit) (hu : X.A.units + 65 < cLine) : CallRK X (.builtin "sorted") [Str.ofString "key"] (rLF X.K f) := by
  intro pins s σ H vs zs us ws Q I r rz h
  obtain ⟨F, a, wv, bs, hs, rfl, rfl, hq, hd, hz, q⟩ := h
  obtain ⟨u1, rfl, e1⟩ := vals1 r
  obtain rfl : u1 = Value.ref a := e1
  obtain ⟨w1, rfl, e1⟩ := vals1 rz
  obtain rfl : w1 = Value.ref f := e1
  obtain ⟨its, rv, hl, _⟩ := I.list hq
  refine PySem.W.sorted_key_data (b := false) lfKey hl.isList (each_of rv hd) (PySem.W.AllAlike.of fun x y => ?_) (PySem.W.Sortable.tuples fun x => ⟨_, _, rfl⟩) hz (fun x _ => ?_) (ksk_s1 _ _) (fun _ => ksk_l1 _ _) (fun _ => ksk_t1 _ _) (fun v x hv _ h tk kp => ?_) fun out c h' tk kp hf hD hlen eo => ?_
  · simp only [lfKey, PySem.W.alike, PySem.W.alikeAll, Bool.true_and, Bool.and_true]
    exact PySem.W.alike_ints x y
  · have hd : (lfKey x).depth ≤ 3 := by
      have := depth0 x
      simp only [lfKey, PyData.depth, PyData.depthAll]
      omega
    omega
  · obtain ⟨u, ru, du⟩ := hv
    obtain ⟨c, vs2, rfl, hc, d2⟩ := du.tup'
    have e2 := d2.ints
    subst e2
    obtain rfl : v = Value.ref c := ru
    obtain ⟨its2, rv2, ht, hz2⟩ := I.tuple (same_t hs hc)
    exact lf_call L I.ok.mod (fun b o e => kp b o (I.bk b o e)) hdep (ht.keeps kp) rv2 (by simpa using hz2)
  · rw [sortLF_eq] at eo
    obtain ⟨ws', h1, h2⟩ := of_each eo
    have hfr : H (s.heap.objs.size + 1) = none := I.hok.fresh (Nat.le_succ _)
    have hlen' : ws'.length ≤ sizeLine := by rw [h1.length, hlen]; exact hz
    exact ⟨.ref _, upd H (s.heap.objs.size + 1) (.lst ws'), I.laid (t' := tk) kp (Nat.le_succ _) ⟨hlen', _, c, h1, hD⟩, rfl, q _ _ hfr h2⟩
theorem se_sortLF {X : Cx} {W : WX} {f : Addr} {e : Expr} {ma : Env → Out R} {kf : Str} {p p3 kpos pos : Pos} (L : LfOk X.K X.mg f) (hdep : X.A.depth < recursionLimit) (hu : X.A.units + 65 < cLine) (hg : Gl X "sorted") (hm : X.mg "sorted" = none)
    (hgf : Gl X kf) (hmf : X.mg kf = some (.ref f)) (hdf : (kf == ("__debug__" : Str)) = false) (ha : PE X e (tE X.K W ma)) (hs : noStarE e = true) :
    PE X (.Call (.Name "sorted" p) [e] [⟨some "key", .Name kf p3, kpos⟩] pos) (tE X.K W fun env => (ma env).bind fun r e1 => ofO ((lookT e1 r).bind fun t => (seqL t).bind fun xs => (rowsI xs).bind fun bs => if bs.length ≤ sizeLine then some (R.new (.lst ((sortLF bs).map rowT))) else none) e1) := by
  have hns : noStar [e] = true := by simp [noStar, hs]
  refine pe_imp (pe_callBK (cr_sortLF L hdep hu) hg hm (by decide +kernel) (pa_cons ha pa_nil (star_cons hs)) (pk_cons (pe_glob (v := .ref f) hgf hmf rfl hdf) pk_nil) (by decide) (by decide) (by rw [star_cons hs]; rfl) (star_any hns) rfl rfl rfl) fun σ H Q ⟨env, F, fp, E, q⟩ => ?_
  refine tE_intro E Stp.refl q fun r e1 H1 F1 fp1 v l E1 s1 rr tm q1 => ?_
  obtain ⟨rs, er, q2⟩ := ofO_asks q1
  simp only [Option.bind_eq_some_iff] at er
  obtain ⟨t, et, xs, ex, bs, eb, er⟩ := er
  split at er
  · rename_i hz
    cases er
    obtain ⟨a, vs, rfl, hsq, da⟩ := (rr.vr E1 et).seqL E1.sub ex
    refine ⟨F1, a, vs, bs, E1.sub, rfl, rfl, hsq, rowsI_den eb da, hz, fun p vs' hp d' => ?_⟩
    refine q2 _ _ fp1 (E1.alloc hp) (s1.alloc hp) (.ref p) [p] (.new (.lst upd_same d')) fun b hb => ?_
    simp at hb
    subst hb
    exact ⟨E1.freeF hp, E1.notAll hp, s1.back hp⟩
  · cases er
end G
namespace G
open PySem PySem.Spec PyProof.Rows L2

/-! # the meaning of statements -/
inductive Sg where
  | nxt | brk | cnt
  | ret (iv : Iv)
def mapE {α : Type} (f : Env → Env) : Out α → Out α
  | .ok a e => .ok a (f e)
  | .exc x e => .exc x (f e)
  | .stuck => .stuck
def asgR (fx : Nat → Bool) (i : Nat) (r : R) (env : Env) : Out Sg :=
  if i < env.length ∧ fx i = false then match r with
    | .val t => .ok .nxt (env.set i (some (.val t)))
    | .new o => .ok .nxt (env.set i (some (.own o)))
    | .loan _ => .stuck
  else .stuck
def retR (fx : Nat → Bool) (r : R) (env : Env) : Out Sg :=
  match r with
  | .val t => .ok (.ret (.val t)) env
  | .new o => .ok (.ret (.own o)) env
  | .loan j => match env[j]? with
    | some (some (.val t)) => .ok (.ret (.val t)) env
    | some (some (.own o)) => if fx j then .stuck else .ok (.ret (.own o)) (env.set j none)
    | _ => .stuck
def setixR (c : Nat) (ix v : T) (env : Env) : Out Sg :=
  match env[c]? with
  | some (some (.own (.lst xs))) => match ix with
    | .int k => match ixN xs.length k with
      | some j => .ok .nxt (env.set c (some (.own (.lst (xs.set j v)))))
      | none => .stuck
    | _ => .stuck
  | some (some (.own (.dic kvs))) => match keyT ix with
    | some k => if kvs.length < sizeLine then .ok .nxt (env.set c (some (.own (.dic (putT kvs k v))))) else .stuck
    | none => .stuck
  | _ => .stuck
def mutR (m : Mu) (c : Nat) (ts : List T) (env : Env) : Out Sg :=
  match env[c]? with
  | some (some (.own (.lst xs))) => match m, ts with
    | .append, [t] => if xs.length < sizeLine then .ok .nxt (env.set c (some (.own (.lst (xs ++ [t]))))) else .stuck
    | .insert, [.int i, t] => if xs.length < sizeLine ∧ 0 ≤ i ∧ i < 2 ^ 63 then .ok .nxt (env.set c (some (.own (.lst (xs.take i.toNat ++ [t] ++ xs.drop i.toNat))))) else .stuck
    | .extend, [.lst ys] => if xs.length + ys.length ≤ sizeLine then .ok .nxt (env.set c (some (.own (.lst (xs ++ ys))))) else .stuck
    | .pop, [] => match xs[xs.length - 1]? with
      | some _ => .ok .nxt (env.set c (some (.own (.lst xs.dropLast))))
      | none => .stuck
    | _, _ => .stuck
  | _ => .stuck
def isO (env : Env) (c : Nat) : Bool := match env[c]? with | some (some (.own _)) => true | _ => false
def isL (env : Env) (c : Nat) : Bool := match env[c]? with | some (some (.own (.lst _))) => true | _ => false
def forL (fx : Nat → Bool) (tg : Tgt) (body : Env → Out Sg) : List T → Env → Out Sg
  | [], env => .ok .nxt env
  | t :: ts, env => match bindT fx tg t env with
    | none => .stuck
    | some e => (body e).bind fun g e1 => match g with
      | .nxt => forL fx tg body ts e1
      | .cnt => forL fx tg body ts e1
      | .brk => .ok .nxt e1
      | .ret iv => .ok (.ret iv) e1
def whileL (c : Env → Out Bool) (body : Env → Out Sg) : Nat → Env → Out Sg
  | 0, _ => .stuck
  | n + 1, env => (c env).bind fun k e1 => if k then (body e1).bind fun g e2 => match g with
      | .nxt => whileL c body n e2
      | .cnt => whileL c body n e2
      | .brk => .ok .nxt e2
      | .ret iv => .ok (.ret iv) e2
    else .ok .nxt e1
section
variable (C : Nat → List Iv → Res) (G : Nat → T) (D : Nat → Nat → List T) (fx : Nat → Bool) (L : Nat)
mutual
def xc : IS → Env → Out Sg
  | .asg i e, env => (ev C G D e env).bind fun r e1 => asgR fx i r e1
  | .asgT is e, env => (ev C G D e env).bind fun r e1 => match (esc e1 r).bind fun t => bindT fx (.tup is) t e1 with
    | some e2 => .ok .nxt e2
    | none => .stuck
  | .par i j a b, env => (ev C G D a env).bind fun r e1 => (ev C G D b e1).bind fun r2 e2 => match (escs e2 [r, r2]).bind fun ts => bindAll fx [i, j] ts e2 with
    | some e3 => .ok .nxt e3
    | none => .stuck
  | .setix c ix v, env => (ev C G D v env).bind fun rv e1 => if isO e1 c then (ev C G D ix e1).bind fun ri e2 => match esc e2 rv, lookT e2 ri with
      | some tv, some ti => setixR c ti tv e2
      | _, _ => .stuck
    else .stuck
  | .mut m c es, env => if isL env c then (evs C G D es env).bind fun rs e1 => match m with
      | .extend => match looks e1 rs with | some ts => mutR m c ts e1 | none => .stuck
      | _ => match escs e1 rs with | some ts => mutR m c ts e1 | none => .stuck
    else .stuck
  | .expr e, env => (ev C G D e env).bind fun _ e1 => .ok .nxt e1
  | .ret e, env => (ev C G D e env).bind fun r e1 => retR fx r e1
  | .retN, env => .ok (.ret (.val .non)) env
  | .pass, env => .ok .nxt env
  | .brk, env => .ok .brk env
  | .cont, env => .ok .cnt env
  | .ite c a b, env => (evT C G D c env).bind fun k e1 => if k then xcs a e1 else xcs b e1
  | .for tg src body, env => (evSrc C G D src env).bind fun it e1 => mapE (fun e => unlockE e it.2) (forL fx tg (xcs body) it.1 (lockE e1 it.2))
  | .while c body, env => whileL (evT C G D c) (xcs body) L env
  | .raise n _, env => .exc (.blt n) env
  | .try body n suite, env => match xcs body env with
    | .exc (.blt m) e => if m = n then noexc (xcs suite e) else .stuck
    | o => o
termination_by structural x => x
def xcs : ISs → Env → Out Sg
  | .nil, env => .ok .nxt env
  | .cons s ss, env => (xc s env).bind fun g e1 => match g with
    | .nxt => xcs ss e1
    | g => .ok g e1
termination_by structural x => x
end
end

/-! # readings of statements -/
structure Fix (fx : Nat → Bool) (σ σ' : L2.St) : Prop where
  at_ : ∀ i, fx i = true → σ'[i]? = σ[i]?
theorem Fix.refl {fx : Nat → Bool} {σ : L2.St} : Fix fx σ σ := ⟨fun _ _ => rfl⟩
theorem Fix.trans {fx : Nat → Bool} {σ σ1 σ2 : L2.St} (a : Fix fx σ σ1) (b : Fix fx σ1 σ2) : Fix fx σ σ2 := ⟨fun i h => (b.at_ i h).trans (a.at_ i h)⟩
def Out.askS (K : PySem.W.Frag) (W : WX) (fx : Nat → Bool) (σ0 : L2.St) (H F : Hp) (P : Fp) (o : Out Sg) (Q : Sg → Env → L2.St → Hp → Hp → (Nat → List Addr) → Prop) : Prop :=
  match o with
  | .ok g env' => ∀ σ' H' F' fp', EnvR K env' σ' H' F' fp' → Stp P H F (fpOf env' fp') H' F' → Fix fx σ0 σ' → Q g env' σ' H' F' fp'
  | .exc x env' => ∀ cls d σ' H' F' fp', EnvR K env' σ' H' F' fp' → Stp P H F (fpOf env' fp') H' F' → Fix fx σ0 σ' → XR x cls d H' → W cls d σ' H'
  | .stuck => False
def EndQ (K : PySem.W.Frag) (H0 : Hp) (P0 : Fp) (D : Ends) : Sg → Env → L2.St → Hp → Hp → (Nat → List Addr) → Prop := fun g env' σ' H' F' fp' => match g with
  | .nxt => D.nx σ' H'
  | .brk => D.bk σ' H'
  | .cnt => D.ct σ' H'
  | .ret iv => ∀ v l, IvR K H' F' v iv l → Tmp H0 P0 F' (fpOf env' fp') l → D.rt v H'
def tS (K : PySem.W.Frag) (W : WX) (fx : Nat → Bool) (m : Env → Out Sg) : TS := fun D σ H => ∃ env F fp, EnvR K env σ H F fp ∧ (m env).askS K W fx σ H F (fpOf env fp) (EndQ K H (fpOf env fp) D)

theorem ps_imp {X : Cx} {e : Stmt} {t t' : TS} (h : PS X e t) (k : ∀ D σ H, t' D σ H → t D σ H) : PS X e t' := ⟨fun pins s σ H D I q => h.run pins s σ H D I (k D σ H q)⟩
theorem pss_imp {X : Cx} {e : List Stmt} {t t' : TS} (h : PSs X e t) (k : ∀ D σ H, t' D σ H → t D σ H) : PSs X e t' := ⟨fun pins s σ H D I q => h.run pins s σ H D I (k D σ H q)⟩
section
variable {K : PySem.W.Frag} {W : WX} {fx : Nat → Bool} {σ σ0 σ1 : L2.St} {env : Env} {H F H0 F0 : Hp} {P0 P : Fp} {fp : Nat → List Addr} {D : Ends}
/-- from a later world -/
theorem askS_mono {o : Out Sg} (s : Stp P0 H0 F0 P H F) (f : Fix fx σ0 σ) (h : o.askS K W fx σ0 H0 F0 P0 (EndQ K H0 P0 D)) : o.askS K W fx σ H F P (EndQ K H P D) := by
  cases o with
  | stuck => exact h
  | exc x e => exact fun cls d σ' H' F' fp' E t g => h cls d σ' H' F' fp' E (s.trans t) (f.trans g)
  | ok g e =>
    intro σ' H' F' fp' E t gx
    have := h σ' H' F' fp' E (s.trans t) (f.trans gx)
    cases g with
    | ret iv => exact fun v l i tm => this v l i (tm.base s)
    | _ => exact this
/-- a piece of an expression, then a statement's end -/
theorem tE_st {m : Env → Out R} {f : R → Env → Out Sg} {Q0 : Sg → Env → L2.St → Hp → Hp → (Nat → List Addr) → Prop} {Q : VK} (E : EnvR K env σ H F fp) (s : Stp P0 H0 F0 (fpOf env fp) H F) (f0 : Fix fx σ0 σ) (h : ((m env).bind f).askS K W fx σ0 H0 F0 P0 Q0)
    (k : ∀ r env2 H2 F2 fp2 v l, EnvR K env2 σ H2 F2 fp2 → Stp (fpOf env fp) H F (fpOf env2 fp2) H2 F2 → RR K σ H2 F2 r v l → Tmp H (fpOf env fp) F2 (fpOf env2 fp2) l → (f r env2).askS K W fx σ0 H0 F0 P0 Q0 → Q v H2) : tE K W m σ H Q := by
  refine ⟨env, F, fp, E, ?_⟩
  cases e : m env with
  | stuck => rw [e] at h; exact h
  | exc x env' => rw [e] at h; exact fun cls d H' F' fp' E' t x => h cls d σ H' F' fp' E' (s.trans t) f0 x
  | ok r env2 => rw [e] at h; exact fun H' F' fp' E' t v l rr tm => k r env2 H' F' fp' v l E' t rr tm h
theorem tB_st {m : Env → Out Bool} {f : Bool → Env → Out Sg} {Q0 : Sg → Env → L2.St → Hp → Hp → (Nat → List Addr) → Prop} {Q : Bool → Hp → Prop} (E : EnvR K env σ H F fp) (s : Stp P0 H0 F0 (fpOf env fp) H F) (f0 : Fix fx σ0 σ) (h : ((m env).bind f).askS K W fx σ0 H0 F0 P0 Q0)
    (k : ∀ r env2 H2 F2 fp2, EnvR K env2 σ H2 F2 fp2 → Stp (fpOf env fp) H F (fpOf env2 fp2) H2 F2 → (f r env2).askS K W fx σ0 H0 F0 P0 Q0 → Q r H2) : G.tB K W m σ H Q := by
  refine ⟨env, F, fp, E, ?_⟩
  cases e : m env with
  | stuck => rw [e] at h; exact h
  | exc x env' => rw [e] at h; exact fun cls d H' F' fp' E' t x => h cls d σ H' F' fp' E' (s.trans t) f0 x
  | ok r env2 => rw [e] at h; exact fun H' F' fp' E' t => k r env2 H' F' fp' E' t h
theorem tA_st {m : Env → Out (List R)} {f : List R → Env → Out Sg} {Q0 : Sg → Env → L2.St → Hp → Hp → (Nat → List Addr) → Prop} {Q : List V → Hp → Prop} (E : EnvR K env σ H F fp) (s : Stp P0 H0 F0 (fpOf env fp) H F) (f0 : Fix fx σ0 σ) (h : ((m env).bind f).askS K W fx σ0 H0 F0 P0 Q0)
    (k : ∀ r env2 H2 F2 fp2 v l, EnvR K env2 σ H2 F2 fp2 → Stp (fpOf env fp) H F (fpOf env2 fp2) H2 F2 → RRs K σ H2 F2 r v l → Tmp H (fpOf env fp) F2 (fpOf env2 fp2) l → (f r env2).askS K W fx σ0 H0 F0 P0 Q0 → Q v H2) : tA K W m σ H Q := by
  refine ⟨env, F, fp, E, ?_⟩
  cases e : m env with
  | stuck => rw [e] at h; exact h
  | exc x env' => rw [e] at h; exact fun cls d H' F' fp' E' t x => h cls d σ H' F' fp' E' (s.trans t) f0 x
  | ok r env2 => rw [e] at h; exact fun H' F' fp' E' t v l rr tm => k r env2 H' F' fp' v l E' t rr tm h
/-- a slot is given an object of its own -/
theorem EnvR.setOwn (E : EnvR K env σ H F fp) (s : Stp P0 H0 F0 (fpOf env fp) H F) {i : Nat} {o : Ow} {v : V} {l : List Addr} (hi : i < env.length) (h : OwnR K H F v o l) (tm : Tmp H0 P0 F (fpOf env fp) l) :
    EnvR K (env.set i (some (.own o))) (σ.set i (some v)) H F (fun j => if j = i then l else fp j) ∧ Stp P0 H0 F0 (fpOf (env.set i (some (.own o))) fun j => if j = i then l else fp j) H F := by
  refine ⟨E.setIv hi (.own h) fun a ha => ⟨(tm a ha).1, fun j _ hj => (tm a ha).2.1 ⟨j, hj⟩⟩, s.keep, s.fz, s.nfz, fun a ⟨j, o', ej, hj⟩ => ?_, fun a ⟨j, hj⟩ => ?_, fun j a ⟨o', ej, hj⟩ => ?_⟩
  · have hj : a ∈ (if j = i then l else fp j) := hj
    split at hj
    · exact (tm a hj).2.2
    · rename_i hji
      rcases get_set ej with ⟨h1, _⟩ | ⟨_, h4⟩
      · exact absurd h1.symm hji
      · exact s.own a ⟨j, o', h4, hj⟩
  · have hj : a ∈ (if j = i then l else fp j) := hj
    split at hj
    · exact (tm a hj).2.2.imp (P0.sub a) id
    · exact s.all a ⟨j, hj⟩
  · have hj : a ∈ (if j = i then l else fp j) := hj
    rcases get_set ej with ⟨_, h3, _⟩ | ⟨h3, h4⟩
    · cases h3
    · rw [if_neg (Ne.symm h3)] at hj
      exact s.lk j a ⟨o', h4, hj⟩
/-- the object of a slot is written -/
theorem EnvR.write (E : EnvR K env σ H F fp) {i : Nat} {o o' : Ow} {a : Addr} {ob : HO} (ei : env[i]? = some (some (.own o))) (es : σ[i]? = some (some (.ref a))) (hn : OwnR K (upd H a ob) F (.ref a) o' [a]) :
    EnvR K (env.set i (some (.own o'))) σ (upd H a ob) F fp ∧ Stp (fpOf env fp) H F (fpOf (env.set i (some (.own o'))) fp) (upd H a ob) F := by
  obtain ⟨v, e1, r⟩ := E.slot i _ ei
  rw [es] at e1
  cases e1
  obtain ⟨b, eb, hl⟩ := r.ref fun t => by simp
  cases eb
  have hi : i < env.length := (List.getElem?_eq_some_iff.mp ei).1
  have hown : (fpOf env fp).own a := ⟨i, o, ei, by rw [hl]; exact List.mem_cons_self⟩
  have hFa : F a = none := E.free i a (by rw [hl]; exact List.mem_cons_self)
  refine ⟨⟨fun j iv ej => ?_, fun j hj => ?_, E.dis, E.free, fun b x e => ?_, by simpa using E.len⟩, fun b x e hb => ?_, fun _ _ h => h, fun _ h => .inl h, fun b ⟨j, o2, ej, hj⟩ => ?_, fun b h => .inl h, fun j b ⟨o2, ej, hj⟩ => ?_⟩
  · rcases get_set ej with ⟨rfl, h3, _⟩ | ⟨h3, h4⟩
    · cases h3
      refine ⟨_, es, ?_⟩
      rw [hl]
      exact .own hn
    · obtain ⟨v, g1, g2⟩ := E.slot j iv h4
      refine ⟨v, g1, g2.keep (fun b hb => upd_ne fun z => h3 ?_) fun _ _ h => h⟩
      subst z
      exact E.dis i j b (by rw [hl]; exact List.mem_cons_self) hb
  · by_cases hji : j = i
    · subst hji
      exact absurd (by rw [List.getElem?_set_self hi]) (hj (.own o'))
    · exact E.out j (get_set_none hj (Ne.symm hji))
  · rw [upd_ne (ne_of_none e hFa)]
    exact E.sub b x e
  · rw [upd_ne fun z => hb (by rw [z]; exact hown)]
    exact e
  · rcases get_set ej with ⟨rfl, h3, _⟩ | ⟨h3, h4⟩
    · exact .inl ⟨_, o, ei, hj⟩
    · exact .inl ⟨j, o2, h4, hj⟩
  · rcases get_set ej with ⟨_, h3, _⟩ | ⟨h3, h4⟩
    · cases h3
    · exact ⟨o2, h4, hj⟩
end
end G
namespace G
open PySem PySem.Spec PyProof.Rows L2

section
variable {X : Cx} {W : WX} {fx : Nat → Bool} {a b c e : Expr} {es : List Expr} {ma mb mc : Env → Out R} {ms : Env → Out (List R)} {mt : Env → Out Bool} {m1 m2 : Env → Out Sg} {pos p apos : Pos} {x y : Str} {st : Stmt} {rest : List Stmt} {i j : Nat}

theorem ss_nil : PSs X [] (tS X.K W fx fun env => .ok .nxt env) := pss_imp pss_nil fun D σ H ⟨env, F, fp, E, q⟩ => q σ H F fp E Stp.refl Fix.refl
theorem ss_cons (h1 : PS X st (tS X.K W fx m1)) (h2 : PSs X rest (tS X.K W fx m2)) : PSs X (st :: rest) (tS X.K W fx fun env => (m1 env).bind fun g e1 => match g with
    | .nxt => m2 e1
    | g => .ok g e1) := by
  refine pss_imp (pss_cons h1 h2) fun D σ H ⟨env, F, fp, E, q⟩ => ⟨env, F, fp, E, ?_⟩
  cases em : m1 env with
  | stuck => simp only [em, Out.bind] at q; exact q
  | exc z e1 => simp only [em, Out.bind] at q; exact q
  | ok g e1 =>
    simp only [em, Out.bind] at q
    cases g with
    | nxt =>
      intro σ' H' F' fp' E' s' f'
      exact ⟨e1, F', fp', E', askS_mono (o := m2 e1) s' f' q⟩
    | brk => exact q
    | cnt => exact q
    | ret iv => exact q
theorem ss_pass : PS X (.Pass pos) (tS X.K W fx fun env => .ok .nxt env) := ps_imp ps_pass fun D σ H ⟨env, F, fp, E, q⟩ => q σ H F fp E Stp.refl Fix.refl
theorem ss_brk : PS X (.Break pos) (tS X.K W fx fun env => .ok .brk env) := ps_imp ps_break fun D σ H ⟨env, F, fp, E, q⟩ => q σ H F fp E Stp.refl Fix.refl
theorem ss_cont : PS X (.Continue pos) (tS X.K W fx fun env => .ok .cnt env) := ps_imp ps_continue fun D σ H ⟨env, F, fp, E, q⟩ => q σ H F fp E Stp.refl Fix.refl
theorem ss_retN : PS X (.Return none pos) (tS X.K W fx fun env => .ok (.ret (.val .non)) env) := ps_imp ps_retN fun D σ H ⟨env, F, fp, E, q⟩ => q σ H F fp E Stp.refl Fix.refl .non [] (.val .non) .nil
theorem ss_doc {z : Str} {k : Nat} : PS X (.Expr (.Constant (.str z) k p) pos) (tS X.K W fx fun env => .ok .nxt env) := ps_imp ps_doc fun D σ H ⟨env, F, fp, E, q⟩ => q σ H F fp E Stp.refl Fix.refl
theorem ss_expr (ha : PE X e (tE X.K W ma)) (hs : swapsWith e none pos.line X.env = pure false) : PS X (.Expr e pos) (tS X.K W fx fun env => (ma env).bind fun _ e1 => .ok .nxt e1) := by
  refine ps_imp (ps_expr ha hs) fun D σ H ⟨env, F, fp, E, q⟩ => ?_
  exact tE_st E Stp.refl Fix.refl q fun r e1 H1 F1 fp1 v l E1 s1 rr tm q1 => q1 σ H1 F1 fp1 E1 s1 Fix.refl
theorem asg_end {K : PySem.W.Frag} {σ : L2.St} {env env1 : Env} {H F H1 F1 : Hp} {fp fp1 : Nat → List Addr} {D : Ends} {r : R} {v : V} {l : List Addr} (E1 : EnvR K env1 σ H1 F1 fp1) (s1 : Stp (fpOf env fp) H F (fpOf env1 fp1) H1 F1)
    (rr : RR K σ H1 F1 r v l) (tm : Tmp H (fpOf env fp) F1 (fpOf env1 fp1) l) (q : (asgR fx i r env1).askS K W fx σ H F (fpOf env fp) (EndQ K H (fpOf env fp) D)) : D.nx (σ.set i (some v)) H1 := by
  unfold asgR at q
  split at q
  · rename_i hi
    have fix : Fix fx σ (σ.set i (some v)) := ⟨fun k hk => by
      rw [List.getElem?_set_ne]
      intro z; rw [z, hk] at hi; cases hi.2⟩
    cases rr with
    | val d =>
      obtain ⟨E2, s2⟩ := E1.setVal hi.1 d
      exact q _ H1 F1 _ E2 (s1.trans s2) fix
    | new d =>
      obtain ⟨E2, s2⟩ := E1.setOwn s1 hi.1 d tm
      exact q _ H1 F1 _ E2 s2 fix
    | loan d => exact q.elim
  · exact q.elim
theorem ss_asg (hN : X.N.Nodup) (hi : X.N[i]? = some x) (hx : Loc X.env.scope x) (hf : X.fn x = true ∨ X.env.scope.names.lookup x = some .local) (ha : PE X e (tE X.K W ma)) (hs : swapsWith e (some (.Name x p)) pos.line X.env = pure false) :
    PS X (.Assign [.Name x p] e pos) (tS X.K W fx fun env => (ma env).bind fun r e1 => asgR fx i r e1) := by
  refine ps_imp (ps_set hN hi hx ha hs hf) fun D σ H ⟨env, F, fp, E, q⟩ => ?_
  exact tE_st E Stp.refl Fix.refl q fun r e1 H1 F1 fp1 v l E1 s1 rr tm q1 => asg_end E1 s1 rr tm q1
/-- the store of a comprehension's list -/
theorem ss_asgLc {te : TE} (h : PS X st (tAsg te (gName i))) (k : ∀ σ H Q, tE X.K W ma σ H Q → te σ H Q) : PS X st (tS X.K W fx fun env => (ma env).bind fun r e1 => asgR fx i r e1) := by
  refine ps_imp h fun D σ H ⟨env, F, fp, E, q⟩ => k _ _ _ ?_
  exact tE_st E Stp.refl Fix.refl q fun r e1 H1 F1 fp1 v l E1 s1 rr tm q1 => asg_end E1 s1 rr tm q1
theorem SetOnly.fix_ {is : List Nat} {σ σ' : L2.St} (h : SetOnly is fx σ σ') : Fix fx σ σ' := ⟨h.fix⟩
theorem ss_asgT {is : List Nat} {tg : Expr} (hg : PG X tg (gTgt X.K (.tup is))) (ha : PE X e (tE X.K W ma)) (hs : swapsWithSole [tg] e pos.line X.env = pure false) (hw : swappedStores [tg] e X.env = pure none) (h1 : (assignEach [tg] X.env).map (·.2) = [assign tg X.env]) :
    PS X (.Assign [tg] e pos) (tS X.K W fx fun env => (ma env).bind fun r e1 => match (esc e1 r).bind fun t => bindT fx (.tup is) t e1 with
    | some e2 => .ok .nxt e2
    | none => .stuck) := by
  refine ps_imp (ps_asg ha hg hs hw h1) fun D σ H ⟨env, F, fp, E, q⟩ => ?_
  refine tE_st E Stp.refl Fix.refl q fun r e1 H1 F1 fp1 v l E1 s1 rr tm q1 => ?_
  split at q1
  · rename_i e2 hb
    obtain ⟨t, ht, hb⟩ := Option.bind_eq_some_iff.mp hb
    obtain ⟨F2, sF, d2, E2, s2, _⟩ := esc_ok rr E1 tm s1 ht
    refine tgt_ok E2 d2 hb fun σ' fp' E3 s3 so => ?_
    exact q1 σ' H1 F2 fp' E3 (s2.trans s3) so.fix_
  · exact q1.elim
theorem ss_par {pt : Pos} {kt k2 : Nat} {pt2 px py : Pos} (hc : X.calm = true) (hN : X.N.Nodup) (hi : X.N[i]? = some x) (hj : X.N[j]? = some y) (hij : i ≠ j) (hx : X.env.scope.names.lookup x = some .local) (hy : X.env.scope.names.lookup y = some .local)
    (ha : PE X a (tE X.K W ma)) (hb : PE X b (tE X.K W mb)) (hsa : noStarE a = true) (hsb : noStarE b = true)
    (hw : swappedStores [.Tuple [.Name x px, .Name y py] kt pt] (.Tuple [a, b] k2 pt2) X.env = pure (some [x, y])) :
    PS X (.Assign [.Tuple [.Name x px, .Name y py] kt pt] (.Tuple [a, b] k2 pt2) pos) (tS X.K W fx fun env => (ma env).bind fun r e1 => (mb e1).bind fun r2 e2 => match (escs e2 [r, r2]).bind fun ts => bindAll fx [i, j] ts e2 with
    | some e3 => .ok .nxt e3
    | none => .stuck) := by
  have hl : PA X [a, b] (tA X.K W fun env => (ma env).bind fun r e1 => ((mb e1).bind fun r2 e2 => (Out.ok [] e2).bind fun rs e3 => .ok (r2 :: rs) e3).bind fun rs e2 => .ok (r :: rs) e2) := sa_cons ha (sa_cons hb sa_nil (star_ne hsb)) (star_ne hsa)
  refine ps_imp (ps_par hc hN hi hj hij hx hy hl hw) fun D σ H ⟨env, F, fp, E, q⟩ => ?_
  have eq : ((ma env).bind fun r e1 => (mb e1).bind fun r2 e2 => match (escs e2 [r, r2]).bind fun ts => bindAll fx [i, j] ts e2 with
    | some e3 => Out.ok Sg.nxt e3
    | none => .stuck) = (((ma env).bind fun r e1 => ((mb e1).bind fun r2 e2 => (Out.ok [] e2).bind fun rs e3 => .ok (r2 :: rs) e3).bind fun rs e2 => .ok (r :: rs) e2).bind fun rs e2 => match (escs e2 rs).bind fun ts => bindAll fx [i, j] ts e2 with
    | some e3 => .ok .nxt e3
    | none => .stuck) := by
    cases ma env with
    | stuck => rfl
    | exc _ _ => rfl
    | ok r e1 =>
      simp only [Out.bind]
      cases mb e1 <;> rfl
  simp only at q
  rw [eq] at q
  refine tA_st E Stp.refl Fix.refl q fun rs e1 H1 F1 fp1 vs l E1 s1 rr tm q1 => ?_
  split at q1
  · rename_i e2 hb
    obtain ⟨ts, ht, hb⟩ := Option.bind_eq_some_iff.mp hb
    obtain ⟨F2, sF, d2, E2, s2⟩ := escs_ok rr E1 tm s1 ht
    obtain ⟨v, vs1, rfl, v2, vs2, rfl, rfl, h⟩ := bindAll_ok (Q := fun σ' H' => D.nx σ' H') E2 d2 hb fun σ' fp' E3 s3 so => q1 σ' H1 F2 fp' E3 (s2.trans s3) so.fix_
    exact ⟨v, v2, rfl, h⟩
  · exact q1.elim
theorem ss_ret (ha : PE X e (tE X.K W ma)) : PS X (.Return (some e) pos) (tS X.K W fx fun env => (ma env).bind fun r e1 => retR fx r e1) := by
  refine ps_imp (ps_ret ha) fun D σ H ⟨env, F, fp, E, q⟩ => ?_
  refine tE_st E Stp.refl Fix.refl q fun r e1 H1 F1 fp1 v l E1 s1 rr tm q1 => ?_
  unfold retR at q1
  cases rr with
  | val d => exact q1 σ H1 F1 fp1 E1 s1 Fix.refl v [] (.val d) .nil
  | new d => exact q1 σ H1 F1 fp1 E1 s1 Fix.refl v l (.own d) tm
  | @loan _ k es =>
    simp only at q1
    split at q1
    · rename_i t et
      obtain ⟨v', g1, g2⟩ := E1.slot k _ et
      rw [es] at g1
      cases g1
      cases hl : fp1 k with
      | nil => rw [hl] at g2; exact q1 σ H1 F1 fp1 E1 s1 Fix.refl v [] g2 .nil
      | cons z zs =>
        obtain ⟨_, _, w⟩ := g2.one (a := z) (by rw [hl]; exact List.mem_cons_self)
        exact absurd rfl (w _)
    · rename_i o eo
      split at q1
      · exact q1.elim
      · obtain ⟨v', g1, g2⟩ := E1.slot k _ eo
        rw [es] at g1
        cases g1
        obtain ⟨E2, s2⟩ := E1.wipe [k]
        have E3 : EnvR X.K (wipeE e1 [k]) σ H1 F1 _ := E2.unwipe
        refine q1 σ H1 F1 _ E3 (s1.trans s2) Fix.refl v (fp1 k) g2 fun a ha => ⟨E1.free k a ha, fun ⟨m, hm⟩ => ?_, s1.own a ⟨k, o, eo, ha⟩⟩
        have hm : a ∈ (if m ∈ [k] then [] else fp1 m) := hm
        split at hm
        · simp at hm
        · rename_i hmk
          have := E1.dis k m a ha hm
          subst this
          exact hmk (List.mem_singleton.mpr rfl)
    · exact q1.elim
theorem ss_if {sa sb : List Stmt} (hc : PT X c (G.tB X.K W mt)) (ha : PSs X sa (tS X.K W fx m1)) (hb : PSs X sb (tS X.K W fx m2)) : PS X (.If c sa sb pos) (tS X.K W fx fun env => (mt env).bind fun k e1 => if k then m1 e1 else m2 e1) := by
  refine ps_imp (ps_if hc ha hb) fun D σ H ⟨env, F, fp, E, q⟩ => ?_
  refine tB_st E Stp.refl Fix.refl q fun k e1 H1 F1 fp1 E1 s1 q1 => ?_
  cases k with
  | true => exact iteT ⟨e1, F1, fp1, E1, askS_mono (o := m1 e1) s1 Fix.refl q1⟩
  | false => exact iteF ⟨e1, F1, fp1, E1, askS_mono (o := m2 e1) s1 Fix.refl q1⟩
theorem ss_while {body : List Stmt} {n : Nat} (hp : PassesOwn (model X.prog X.w) X.A X.env X.xe) (hc : PT X c (G.tB X.K W mt)) (hb : PSs X body (tS X.K W fx m1)) : PS X (.While c body [] pos) (tS X.K W fx fun env => whileL mt m1 n env) := by
  refine ps_imp (ps_while hp hc hb) fun D σ0 H0 ⟨env0, F0, fp0, E0, q0⟩ => ?_
  refine ⟨fun n σ H => ∃ env F fp, EnvR X.K env σ H F fp ∧ Stp (fpOf env0 fp0) H0 F0 (fpOf env fp) H F ∧ Fix fx σ0 σ ∧ (whileL mt m1 n env).askS X.K W fx σ0 H0 F0 (fpOf env0 fp0) (EndQ X.K H0 (fpOf env0 fp0) D), ⟨n, env0, F0, fp0, E0, Stp.refl, Fix.refl, q0⟩, ?_⟩
  rintro m σ H ⟨env, F, fp, E, s, f, q⟩
  cases m with
  | zero => exact q.elim
  | succ m =>
    unfold whileL at q
    refine tB_st E s f q fun k e1 H1 F1 fp1 E1 s1 q1 => ?_
    cases k with
    | false => exact iteF (q1 σ H1 F1 fp1 E1 (s.trans s1) f)
    | true =>
      refine iteT ⟨fun σ' H' => ∃ env F fp, EnvR X.K env σ' H' F fp ∧ Stp (fpOf env0 fp0) H0 F0 (fpOf env fp) H' F ∧ Fix fx σ0 σ' ∧ (whileL mt m1 m env).askS X.K W fx σ0 H0 F0 (fpOf env0 fp0) (EndQ X.K H0 (fpOf env0 fp0) D), fun σ' H' h => ⟨m, Nat.lt_succ_self m, h⟩, e1, F1, fp1, E1, ?_⟩
      rw [if_pos rfl] at q1
      cases em : m1 e1 with
      | stuck => simp only [em, Out.bind] at q1; exact q1
      | exc z e2 => simp only [em, Out.bind] at q1; exact fun cls d σ' H' F' fp' E' t g => q1 cls d σ' H' F' fp' E' ((s.trans s1).trans t) (f.trans g)
      | ok g e2 =>
        simp only [em, Out.bind] at q1
        intro σ' H' F' fp' E' t g'
        cases g with
        | nxt => exact ⟨e2, F', fp', E', (s.trans s1).trans t, f.trans g', q1⟩
        | cnt => exact ⟨e2, F', fp', E', (s.trans s1).trans t, f.trans g', q1⟩
        | brk => exact q1 σ' H' F' fp' E' ((s.trans s1).trans t) (f.trans g')
        | ret iv => exact fun v l iv tm => q1 σ' H' F' fp' E' ((s.trans s1).trans t) (f.trans g') v l iv (tm.base (s.trans s1))
end
end G
namespace G
open PySem PySem.Spec PyProof.Rows L2

section
variable {X : Cx} {W : WX} {fx : Nat → Bool} {a b c e : Expr} {es : List Expr} {ma mb mc : Env → Out R} {ms : Env → Out (List R)} {mt : Env → Out Bool} {m1 m2 : Env → Out Sg} {pos p apos : Pos} {x y : Str} {st : Stmt} {rest : List Stmt} {i j : Nat}

theorem iter_plain {iter : Expr} (h : ∀ es k p, iter ≠ .Set es k p) (env : PySem.Env) : ∀ v, foldedSetIterable iter env v = pure v := by
  intro v
  cases iter <;> first | rfl | exact absurd rfl (h _ _ _)
theorem ss_for {tg iter : Expr} {body : List Stmt} {tgt : Tgt} {msrc : Env → Out (List T × Option Nat)} (hp : PassesOwn (model X.prog X.w) X.A X.env X.xe) (hc : X.calm = true) (hi : PI X tg iter (tSrc X.K W msrc)) (hg : PG X tg (gTgt X.K tgt)) (hb : PSs X body (tS X.K W fx m1))
    (hs : ∀ v, foldedSetIterable iter X.env v = pure v) :
    PS X (.For tg iter body [] pos) (tS X.K W fx fun env => (msrc env).bind fun it e1 => mapE (fun e => unlockE e it.2) (forL fx tgt m1 it.1 (lockE e1 it.2))) := by
  refine ps_imp (ps_for hp hc hi hg hb hs) fun D σ0 H0 ⟨env0, F0, fp0, E0, q0⟩ => ?_
  refine ⟨env0, F0, fp0, E0, ?_⟩
  simp only at q0
  cases em : msrc env0 with
  | stuck => simp only [em, Out.bind] at q0; exact q0
  | exc z e1 => simp only [em, Out.bind] at q0; exact fun cls d H' F' fp' E' t g => q0 cls d σ0 H' F' fp' E' t Fix.refl g
  | ok it e1 =>
    simp only [em, Out.bind] at q0
    intro H1 F1 fp1 E1 s1 J Std ok std hlk
    obtain ⟨E2, o2, a2⟩ := E1.lock it.2
    -- behind the loop, or out of it
    have out : ∀ {e : Env} {σ' : L2.St} {H' F' : Hp} {fp' : Nat → List Addr}, EnvR X.K e σ' H' F' fp' → Stp (fpOf (lockE e1 it.2) fp1) H1 F1 (fpOf e fp') H' F' → EnvR X.K (unlockE e it.2) σ' H' F' fp' ∧ Stp (fpOf env0 fp0) H0 F0 (fpOf (unlockE e it.2) fp') H' F' :=
      fun {e σ' H' F' fp'} E' t => ⟨(E'.unlock it.2).1, s1.trans (Stp.locked E1 E' hlk t)⟩
    refine ⟨fun i m σ H => m = it.1.length - i ∧ i ≤ it.1.length ∧ ∃ e F fp, EnvR X.K e σ H F fp ∧ Stp (fpOf (lockE e1 it.2) fp1) H1 F1 (fpOf e fp) H F ∧ Fix fx σ0 σ ∧
      (mapE (fun e => unlockE e it.2) (forL fx tgt m1 (it.1.drop i) e)).askS X.K W fx σ0 H0 F0 (fpOf env0 fp0) (EndQ X.K H0 (fpOf env0 fp0) D), ⟨it.1.length, rfl, Nat.zero_le _, lockE e1 it.2, F1, fp1, E2, Stp.refl, Fix.refl, by rw [List.drop_zero]; exact q0⟩, ?_⟩
    rintro i m σ H ⟨rfl, hile, e, F, fp, E, s, f, q⟩
    have std3 := ok.step _ _ _ _ _ _ std s
    by_cases hlt : i < it.1.length
    · refine .inr ⟨ok.go i _ _ _ std3 E.sub hlt, fun σ' H' => ∃ e F fp, EnvR X.K e σ' H' F fp ∧ Stp (fpOf (lockE e1 it.2) fp1) H1 F1 (fpOf e fp) H' F ∧ Fix fx σ0 σ' ∧
        (mapE (fun e => unlockE e it.2) (forL fx tgt m1 (it.1.drop (i + 1)) e)).askS X.K W fx σ0 H0 F0 (fpOf env0 fp0) (EndQ X.K H0 (fpOf env0 fp0) D), fun σ' H' h => ⟨it.1.length - (i + 1), by omega, rfl, hlt, h⟩, fun v H4 y => ?_⟩
      have ed : it.1.drop i = it.1[i] :: it.1.drop (i + 1) := List.drop_eq_getElem_cons hlt
      rw [ed] at q
      obtain ⟨F4, sF, E4, s4, d4⟩ := (ok.yld i _ _ _ v H4 it.1[i] std3 E.sub y (List.getElem?_eq_getElem hlt)).to E
      unfold forL at q
      cases hb : bindT fx tgt it.1[i] e with
      | none => rw [hb] at q; exact q.elim
      | some e4 =>
        rw [hb] at q
        refine tgt_ok E4 d4 hb fun σ5 fp5 E5 s5 so => ?_
        have s15 := (s.trans s4).trans s5
        have f5 : Fix fx σ0 σ5 := f.trans so.fix_
        refine ⟨e4, F4, fp5, E5, ?_⟩
        simp only at q
        cases eb : m1 e4 with
        | stuck => simp only [eb, Out.bind, mapE] at q; exact q
        | exc z e6 =>
          simp only [eb, Out.bind, mapE] at q
          intro cls d σ' H' F' fp' E' t g
          obtain ⟨E7, s7⟩ := out E' (s15.trans t)
          exact q cls d σ' H' F' fp' E7 s7 (f5.trans g)
        | ok g e6 =>
          simp only [eb, Out.bind] at q
          intro σ' H' F' fp' E' t g'
          cases g with
          | nxt => exact ⟨e6, F', fp', E', s15.trans t, f5.trans g', q⟩
          | cnt => exact ⟨e6, F', fp', E', s15.trans t, f5.trans g', q⟩
          | brk =>
            obtain ⟨E7, s7⟩ := out E' (s15.trans t)
            exact q σ' H' F' fp' E7 s7 (f5.trans g')
          | ret iv =>
            intro v l iv tm
            obtain ⟨E7, s7⟩ := out E' (s15.trans t)
            refine q σ' H' F' fp' E7 s7 (f5.trans g') v l iv fun a ha => ?_
            obtain ⟨t1, t2, t3⟩ := tm a ha
            exact ⟨t1, t2, t3.elim (fun z => (s15.own a z).elim (fun z => s1.own a (o2 a z)) s1.back) (fun z => (Stp.back s15 z).elim (fun z => s1.own a (o2 a z)) s1.back)⟩
    · have ei : i = it.1.length := by omega
      subst ei
      refine .inl ⟨ok.stop _ _ _ _ std3 E.sub (Nat.le_refl _), ?_⟩
      rw [List.drop_length] at q
      obtain ⟨E7, s7⟩ := out E s
      exact q σ H F fp E7 s7 f

/-! # stores into a slot's object -/
theorem lst_own {K : PySem.W.Frag} {σ : L2.St} {env : Env} {H F : Hp} {fp : Nat → List Addr} (E : EnvR K env σ H F fp) {xs : List T} (h : env[i]? = some (some (.own (.lst xs)))) : ∃ a vs, σ[i]? = some (some (.ref a)) ∧ H a = some (.lst vs) ∧ DenAll K F vs xs ∧ fp i = [a] := by
  obtain ⟨v, e1, r⟩ := E.slot i _ h
  generalize fp i = l at r
  cases r with
  | own r => cases r with | lst h1 h2 => exact ⟨_, _, e1, h1, h2, rfl⟩
theorem dic_own {K : PySem.W.Frag} {σ : L2.St} {env : Env} {H F : Hp} {fp : Nat → List Addr} (E : EnvR K env σ H F fp) {xs : List (Key × T)} (h : env[i]? = some (some (.own (.dic xs)))) : ∃ a vs, σ[i]? = some (some (.ref a)) ∧ H a = some (.dK vs) ∧ DenKV K F vs xs ∧ fp i = [a] := by
  obtain ⟨v, e1, r⟩ := E.slot i _ h
  generalize fp i = l at r
  cases r with
  | own r => cases r with | dic h1 h2 => exact ⟨_, _, e1, h1, h2, rfl⟩
theorem VR.int1 {K : PySem.W.Frag} {H F : Hp} {v : V} {k : Int} (h : VR K H F v (.int k)) : v = .int k := by
  cases h with
  | fz d => cases d; rfl
theorem VR.key1 {K : PySem.W.Frag} {H F : Hp} {v : V} {t : T} {k : Key} (h : VR K H F v t) (e : keyT t = some k) : v = kV k := by
  cases h with
  | fz d => exact d.key e
  | _ => simp [keyT] at e
theorem VR.lst1 {K : PySem.W.Frag} {H F : Hp} {v : V} {ys : List T} (h : VR K H F v (.lst ys)) (e : Same F H) : ∃ c zs, v = V.ref c ∧ H c = some (.lst zs) ∧ DenAll K F zs ys := by
  cases h with
  | fz d => cases d with | lst h d => exact ⟨_, _, rfl, e _ _ h, d⟩
  | lst h d => exact ⟨_, _, rfl, h, d⟩
/-- a store, whatever the kind -/
def rSet2 : V → V → V → Hp → (Hp → Prop) → Prop := fun o i v H Q => rSetL o i v H Q ∨ ∃ a H', o = .ref a ∧ DPut H a i v H' ∧ Q H'
theorem set_two (hu : X.A.units + 1 < cLine) : PSet X rSet2 := by
  intro pins s σ H o i v ov iv u Q I ro ri rv h
  rcases h with h | ⟨a, H', rfl, g, q⟩
  · exact set_list pins s σ H o i v ov iv u Q I ro ri rv h
  · cases ro
    exact d_setItem hu I g ri rv fun s' I' => ⟨H', I', q⟩
theorem DenKV.length' {K : PySem.W.Frag} {F : Hp} : ∀ {vs : List (Key × V)} {ts : List (Key × T)}, DenKV K F vs ts → vs.length = ts.length
  | _, _, .nil => rfl
  | _, _, .cons _ d => by rw [List.length_cons, List.length_cons, DenKV.length' d]
theorem ss_setix (hu : X.A.units + 1 < cLine) (ho : X.N[i]? = some x) (hv : Vis X.env.scope x) (hd1 : (x == ("__debug__" : Str)) = false) (hd2 : (x == ("__classdict__" : Str)) = false) (hi : PE X b (tE X.K W mb)) (ha : PE X e (tE X.K W ma)) (hsl : ∀ v, assign (.Subscript (.Name x p) b apos) X.env v = (do
      let ov ← holding [v] (eval (.Name x p) X.env)
      let iv ← holding [v, ov] (eval b X.env)
      standAt apos
      holding [v, ov, iv] (setItem ov iv v)
      release [v, ov, iv] []))
    (hs : swapsWithSole [.Subscript (.Name x p) b apos] e pos.line X.env = pure false) (hw : swappedStores [.Subscript (.Name x p) b apos] e X.env = pure none) :
    PS X (.Assign [.Subscript (.Name x p) b apos] e pos) (tS X.K W fx fun env => (ma env).bind fun rv e1 => if isO e1 i then (mb e1).bind fun ri e2 => match esc e2 rv, lookT e2 ri with
      | some tv, some ti => setixR i ti tv e2
      | _, _ => .stuck
    else .stuck) := by
  refine ps_imp (ps_asg ha (pg_sub (pe_var ho hv hd1 hd2) hi (set_two hu) hsl) hs hw rfl) fun D σ H ⟨env, F, fp, E, q⟩ => ?_
  refine tE_st E Stp.refl Fix.refl q fun rv e1 H1 F1 fp1 v l E1 s1 rr tm q1 => ?_
  split at q1
  · rename_i ho1
    obtain ⟨o, eo⟩ : ∃ o, e1[i]? = some (some (.own o)) := by
      unfold isO at ho1
      split at ho1
      · exact ⟨_, by assumption⟩
      · cases ho1
    obtain ⟨vo, g1, g2⟩ := E1.slot i _ eo
    refine ⟨vo, g1, ?_⟩
    refine tE_st E1 s1 Fix.refl q1 fun ri e2 H2 F2 fp2 w l2 E2 s2 rr2 tm2 q2 => ?_
    split at q2
    · rename_i tv ti h1 h2
      have rr' := rr.step tm s2
      have tm' := tm.step s2 rr.here
      obtain ⟨F3, sF, d3, E3, s3, _⟩ := esc_ok rr' E2 tm' (s1.trans s2) h1
      have hw : VR X.K H2 F2 w ti := rr2.vr E2 h2
      unfold setixR at q2
      split at q2
      · rename_i xs hxs
        split at q2
        · rename_i k
          split at q2
          · rename_i j hj
            obtain ⟨a, vs, f1, f2, f3, f4⟩ := lst_own E3 hxs
            rw [g1] at f1
            cases f1
            have hw' := hw.int1
            subst hw'
            refine .inl ⟨a, vs, k, j, rfl, rfl, f2, by rw [f3.length]; exact hj, ?_⟩
            obtain ⟨E4, s4⟩ := E3.write (o' := .lst (xs.set j tv)) (ob := .lst (vs.set j v)) hxs g1 (.lst upd_same (f3.set j d3))
            exact q2 σ _ F3 fp2 E4 (s3.trans s4) Fix.refl
          · exact q2.elim
        · exact q2.elim
      · rename_i kvs hxs
        split at q2
        · rename_i k hk
          split at q2
          · rename_i hz
            obtain ⟨a, vs, f1, f2, f3, f4⟩ := dic_own E3 hxs
            rw [g1] at f1
            cases f1
            have hw' := hw.key1 hk
            subst hw'
            refine .inr ⟨a, _, rfl, .inl ⟨vs, k, f2, rfl, by rw [f3.length']; exact hz, rfl⟩, ?_⟩
            obtain ⟨E4, s4⟩ := E3.write (o' := .dic (putT kvs k tv)) (ob := .dK (putK vs k v)) hxs g1 (.dic upd_same (f3.put k d3))
            exact q2 σ _ F3 fp2 E4 (s3.trans s4) Fix.refl
          · exact q2.elim
        · exact q2.elim
      · exact q2.elim
    · exact q2.elim
  · exact q1.elim
/-! # methods of a slot's list -/
theorem isL_own {env : Env} (h : isL env i = true) : ∃ xs, env[i]? = some (some (.own (.lst xs))) := by
  unfold isL at h
  split at h
  · exact ⟨_, by assumption⟩
  · cases h
theorem few_of {es : List Expr} {cpos : Pos} {env : PySem.Env} (h : noStar es = true) (hl : es.length < 30) : ((backTo cpos (starEach es env)).all (fun x => !x.1) && (backToKw cpos (keywordEach [] env)).all (fun x => x.1.isSome)
      && decide (es.length + ([] : List Keyword).length + (if ([] : List Keyword).isEmpty then 0 else 1) < 30)) = true := by
  rw [star_all h]
  simp only [Bool.true_and]
  refine Bool.and_eq_true_iff.mpr ⟨rfl, ?_⟩
  simpa using hl
/-- the walk of a changing method -/
theorem ss_mut {id : String} {name : Str} {r : V → List V → Hp → VK → Prop} {f : List R → Env → Out Sg} {pos2 : Pos} (slot : Slot "list" name id) (ty : typeOf (.builtin id) = pure (.type "method_descriptor")) (rule : MtR X id r)
    (ho : X.N[i]? = some x) (hv : Vis X.env.scope x) (hd1 : (x == ("__debug__" : Str)) = false) (hd2 : (x == ("__classdict__" : Str)) = false) (hl : PA X (a :: es) (tA X.K W ms)) (hs : noStar (a :: es) = true) (hn : (a :: es).length < 30) (hq : (apos.endLine == p.line) = true)
    (hr : ∀ {σ σ0 : L2.St} {env : Env} {H F H0 F0 : Hp} {P0 : Fp} {fp : Nat → List Addr} {rs : List R} {vs : List V} {l : List Addr} {u : V} {D : Ends}, EnvR X.K env σ H F fp → Stp P0 H0 F0 (fpOf env fp) H F → Fix fx σ0 σ → RRs X.K σ H F rs vs l → Tmp H0 P0 F (fpOf env fp) l → σ[i]? = some (some u) →
      (f rs env).askS X.K W fx σ0 H0 F0 P0 (EndQ X.K H0 P0 D) → r u vs H fun _ H' => D.nx σ H') :
    PS X (.Expr (.Call (.Attribute (.Name x pos) name apos) (a :: es) [] p) pos2) (tS X.K W fx fun env => if isL env i then (ms env).bind f else .stuck) := by
  have hs' : noStarE a = true ∧ noStar es = true := by simpa [noStar] using hs
  refine ps_imp (ps_expr (pe_bm PySem.F.plainAttrs_list slot ty rule (pe_var ho hv hd1 hd2) hl rfl (few_of hs hn) hq (star_cons hs'.1) (star_any hs'.2)) rfl) fun D σ H ⟨env, F, fp, E, q⟩ => ?_
  simp only at q
  split at q
  · rename_i hL
    obtain ⟨xs, hxs⟩ := isL_own hL
    obtain ⟨b, vs, e1, e2, e3, e4⟩ := lst_own E hxs
    refine ⟨_, e1, .inl ⟨rfl, vs, .inl (.inl e2)⟩, ?_⟩
    exact tA_st E Stp.refl Fix.refl q fun rs e1' H1 F1 fp1 ws l E1 s1 rr tm q1 => hr E1 s1 Fix.refl rr tm e1 q1
  · exact q.elim
theorem ss_append {pos2 : Pos} (ho : X.N[i]? = some x) (hv : Vis X.env.scope x) (hd1 : (x == ("__debug__" : Str)) = false) (hd2 : (x == ("__classdict__" : Str)) = false) (hl : PA X [a] (tA X.K W ms)) (hs : noStar [a] = true) (hq : (apos.endLine == p.line) = true) :
    PS X (.Expr (.Call (.Attribute (.Name x pos) "append" apos) [a] [] p) pos2) (tS X.K W fx fun env => if isL env i then (ms env).bind fun rs e1 => match escs e1 rs with | some ts => mutR .append i ts e1 | none => .stuck else .stuck) := by
  refine ss_mut PySem.F.slot_list_append PySem.F.type_list_append mt_append ho hv hd1 hd2 hl hs (by simp) hq fun {σ σ0 env H F H0 F0 P0 fp rs vs l u D} E s f rr tm eu q => ?_
  split at q
  · rename_i ts ht
    obtain ⟨F2, sF, d2, E2, s2⟩ := escs_ok rr E tm s ht
    unfold mutR at q
    split at q
    · rename_i xs hxs
      split at q
      · rename_i t ht1
        split at q
        · rename_i hz
          obtain ⟨b, ws, e1, e2, e3, e4⟩ := lst_own E2 hxs
          rw [eu] at e1
          cases e1
          cases d2 with
          | cons d dn =>
            cases dn
            refine ⟨b, ws, _, rfl, rfl, e2, by rw [e3.length]; exact hz, ?_⟩
            obtain ⟨E4, s4⟩ := E2.write (o' := .lst (xs ++ [t])) (ob := .lst (ws ++ [_])) hxs eu (.lst upd_same (e3.append (.one d)))
            exact q σ _ F2 fp E4 (s2.trans s4) f
        · exact q.elim
      all_goals first | exact q.elim | (rename_i hm _ ; exact absurd hm (by decide)) | (exfalso; simp_all)
    · exact q.elim
  · exact q.elim
theorem ss_insert {pos2 : Pos} (ho : X.N[i]? = some x) (hv : Vis X.env.scope x) (hd1 : (x == ("__debug__" : Str)) = false) (hd2 : (x == ("__classdict__" : Str)) = false) (hl : PA X [a, b] (tA X.K W ms)) (hs : noStar [a, b] = true) (hq : (apos.endLine == p.line) = true) :
    PS X (.Expr (.Call (.Attribute (.Name x pos) "insert" apos) [a, b] [] p) pos2) (tS X.K W fx fun env => if isL env i then (ms env).bind fun rs e1 => match escs e1 rs with | some ts => mutR .insert i ts e1 | none => .stuck else .stuck) := by
  refine ss_mut PySem.F.slot_list_insert PySem.F.type_list_insert mt_insert ho hv hd1 hd2 hl hs (by simp) hq fun {σ σ0 env H F H0 F0 P0 fp rs vs l u D} E s f rr tm eu q => ?_
  split at q
  · rename_i ts ht
    obtain ⟨F2, sF, d2, E2, s2⟩ := escs_ok rr E tm s ht
    unfold mutR at q
    split at q
    · rename_i xs hxs
      split at q
      · contradiction
      · rename_i n t _
        split at q
        · rename_i hz
          obtain ⟨b, ws, e1, e2, e3, e4⟩ := lst_own E2 hxs
          rw [eu] at e1
          cases e1
          cases d2 with
          | cons d dn =>
            cases d
            cases dn with
            | cons d dn =>
              cases dn
              refine ⟨b, ws, n, _, rfl, rfl, e2, by rw [e3.length]; exact hz.1, hz.2.1, hz.2.2, ?_⟩
              obtain ⟨E4, s4⟩ := E2.write (o' := .lst (xs.take n.toNat ++ [t] ++ xs.drop n.toNat)) (ob := .lst (ws.take n.toNat ++ [_] ++ ws.drop n.toNat)) hxs eu (.lst upd_same (((e3.take _).append (.one d)).append (e3.drop _)))
              exact q σ _ F2 fp E4 (s2.trans s4) f
        · exact q.elim
      · contradiction
      · contradiction
      · exact q.elim
    · exact q.elim
  · exact q.elim
theorem ss_extend {pos2 : Pos} (ho : X.N[i]? = some x) (hv : Vis X.env.scope x) (hd1 : (x == ("__debug__" : Str)) = false) (hd2 : (x == ("__classdict__" : Str)) = false) (hl : PA X [a] (tA X.K W ms)) (hs : noStar [a] = true) (hq : (apos.endLine == p.line) = true) :
    PS X (.Expr (.Call (.Attribute (.Name x pos) "extend" apos) [a] [] p) pos2) (tS X.K W fx fun env => if isL env i then (ms env).bind fun rs e1 => match looks e1 rs with | some ts => mutR .extend i ts e1 | none => .stuck else .stuck) := by
  refine ss_mut PySem.F.slot_list_extend PySem.F.type_list_extend mt_extend ho hv hd1 hd2 hl hs (by simp) hq fun {σ σ0 env H F H0 F0 P0 fp rs vs l u D} E s f rr tm eu q => ?_
  split at q
  · rename_i ts ht
    have vr := rr.vrs E ht
    unfold mutR at q
    split at q
    · rename_i xs hxs
      split at q
      · contradiction
      · contradiction
      · rename_i ys _
        split at q
        · rename_i hz
          obtain ⟨b, ws, e1, e2, e3, e4⟩ := lst_own E hxs
          rw [eu] at e1
          cases e1
          cases vr with
          | cons w wn =>
            cases wn
            obtain ⟨c, zs, rfl, hc, dz⟩ := w.lst1 E.sub
            refine ⟨b, c, ws, zs, rfl, rfl, e2, hc, by rw [e3.length, dz.length]; exact hz, ?_⟩
            obtain ⟨E4, s4⟩ := E.write (o' := .lst (xs ++ ys)) (ob := .lst (ws ++ zs)) hxs eu (.lst upd_same (e3.append dz))
            exact q σ _ F fp E4 (s.trans s4) f
        · exact q.elim
      · contradiction
      · exact q.elim
    · exact q.elim
  · exact q.elim
theorem ss_pop {pos2 : Pos} (ho : X.N[i]? = some x) (hv : Vis X.env.scope x) (hd1 : (x == ("__debug__" : Str)) = false) (hd2 : (x == ("__classdict__" : Str)) = false) (hq : (apos.endLine == p.line) = true) :
    PS X (.Expr (.Call (.Attribute (.Name x pos) "pop" apos) [] [] p) pos2) (tS X.K W fx fun env => if isL env i then mutR .pop i [] env else .stuck) := by
  refine ps_imp (ps_expr (pe_bm0 PySem.F.plainAttrs_list PySem.F.slot_list_pop PySem.F.type_list_pop mt_pop (pe_var ho hv hd1 hd2) rfl hq) rfl) fun D σ H ⟨env, F, fp, E, q⟩ => ?_
  simp only at q
  split at q
  · rename_i hL
    obtain ⟨xs, hxs⟩ := isL_own hL
    obtain ⟨b, vs, e1, e2, e3, e4⟩ := lst_own E hxs
    refine ⟨_, e1, .inl ⟨rfl, vs, .inl (.inl e2)⟩, ?_⟩
    unfold mutR at q
    rw [hxs] at q
    simp only at q
    split at q
    · rename_i t ht
      obtain ⟨u, hu, du⟩ := e3.get ht
      refine ⟨b, vs, u, rfl, rfl, e2, by rw [e3.length]; exact hu, ?_⟩
      obtain ⟨E4, s4⟩ := E.write (o' := .lst xs.dropLast) (ob := .lst vs.dropLast) hxs e1 (.lst upd_same e3.dropLast)
      exact q σ _ F fp E4 s4 Fix.refl
    · exact q.elim
  · exact q.elim
/-- try .. except T: -/
theorem ss_try {np pos' : Pos} {body suite : List Stmt} {b0 : Stmt} {n : String} (hs : X.stack = X.env :: X.outer) (hf : X.env.frame = some X.env.locals) (hc : L2.Names X x (.type n)) (hx : PySem.W.exmOne X.K (.type n) (.type n) = some true) (tk : Takes X W)
    (hb : ∀ (W : WX) (pn : List (Addr × Obj)) (xe : Value → Shared → Prop), Takes (X.tr pn xe) W → PassesOwn (model X.prog X.w) X.A X.env xe → PSs (X.tr pn xe) body (tS X.K W fx m1))
    (hsu : ∀ (a : Addr) (pn : List (Addr × Obj)), PSs (X.suite a pn) (b0 :: suite) (tS X.K W0 fx m2)) :
    PS X (.Try body [.ExceptHandler (some (.Name x np)) none (b0 :: suite) pos'] [] [] pos) (tS X.K W fx fun env => match m1 env with
      | .exc (.blt m) e => if m = n then noexc (m2 e) else .stuck
      | o => o) := by
  refine ps_imp (ps_try_only (ts := fun _ _ _ => tS X.K W0 fx m2) (tb := fun W => tS X.K W fx m1) (Wout := W) hs hf hc tk hb fun a oe cls d pn _ _ => hsu a _) fun D σ H ⟨env, F, fp, E, q⟩ => ⟨env, F, fp, E, ?_⟩
  cases em : m1 env with
  | stuck => simp only [em] at q; exact q
  | ok g e => simp only [em] at q; exact q
  | exc z e =>
    cases z with
    | blt m =>
      simp only [em] at q
      split at q
      · rename_i hmn
        subst hmn
        rintro cls d σ' H' F' fp' E' s' f' ⟨rfl, rfl⟩
        refine ⟨true, hx, fun _ a ha => ⟨e, F', fp', E', ?_⟩, fun z => by cases z⟩
        cases e2 : m2 e with
        | stuck => rw [e2] at q; exact q.elim
        | exc z2 e3 => rw [e2] at q; exact q.elim
        | ok g e3 => rw [e2] at q; exact askS_mono (W := W0) (o := .ok g e3) s' f' q
      · exact q.elim
end
end G
namespace G
open PySem PySem.Spec PyProof.Rows L2

/-! # from the text to the small language -/
structure Gam where
  N : List Str
  np : Nat
  fs : List (Str × Nat)
  gs : List (Str × Nat)
  gcd : Bool
  lf : Option Str
  dn : List Str
  rq : Bool
def ixOf : List Str → Str → Option Nat
  | [], _ => none
  | y :: ys, x => if y = x then some 0 else (ixOf ys x).map (· + 1)
theorem ixOf_get : ∀ {l : List Str} {x : Str} {i : Nat}, ixOf l x = some i → l[i]? = some x
  | [], _, _, h => by simp [ixOf] at h
  | y :: ys, x, i, h => by
    unfold ixOf at h
    split at h
    · cases h; rename_i e; subst e; rfl
    · obtain ⟨j, hj, rfl⟩ := Option.map_eq_some_iff.mp h
      simpa using ixOf_get hj
theorem ixOf_none : ∀ {l : List Str} {x : Str}, ixOf l x = none → x ∉ l
  | [], _, _ => by simp
  | y :: ys, x, h => by
    unfold ixOf at h
    split at h
    · cases h
    · rename_i hne
      have := ixOf_none (Option.map_eq_none_iff.mp h)
      simp only [List.mem_cons, not_or]
      exact ⟨fun e => hne e.symm, this⟩
def gd {α : Type} (b : Bool) (o : Option α) : Option α := if b then o else none
theorem gd_some {α : Type} {b : Bool} {o : Option α} {x : α} : gd b o = some x ↔ b = true ∧ o = some x := by
  unfold gd; cases b <;> simp
def plainN (x : Str) : Bool := !(x == ("__debug__" : Str)) && !(x == ("__classdict__" : Str))
def isLoc (sc : Scope) (x : Str) : Bool := sc.names.lookup x == some .local || sc.names.lookup x == some .cell
def isVis (sc : Scope) (x : Str) : Bool := isLoc sc x || sc.names.lookup x == some .free
def isGl (sc : Scope) (x : Str) : Bool := sc.names.lookup x == some .globalImplicit
def slotOf (Γ : Gam) (sc : Scope) (x : Str) : Option Nat := gd (isVis sc x && plainN x) (ixOf Γ.N x)
def locOf (Γ : Gam) (sc : Scope) (x : Str) : Option Nat := gd (isLoc sc x && plainN x) (ixOf Γ.N x)
def nameE (Γ : Gam) (sc : Scope) (mv : Bool) (x : Str) : Option IE :=
  match slotOf Γ sc x with
  | some i => some (if mv then .mov i else .var i)
  | none => gd (isGl sc x && plainN x) ((Γ.gs.lookup x).map IE.glob)
def conE : Const → Option IE
  | .none => some .non
  | .bool b => some (.bl b)
  | .int i => some (.int i)
  | .str s => some (.str s)
  | _ => none
structure Tr where
  e : Scope → Bool → Expr → Option IE
  t : Scope → Expr → Option IB
def trL (r : Tr) (sc : Scope) (mv : Bool) : List Expr → Option IEs
  | [] => some .nil
  | e :: es => gd (noStarE e) ((r.e sc mv e).bind fun a => (trL r sc mv es).map (IEs.cons a))
def andE (r : Tr) (sc : Scope) : List Expr → Option IE
  | [] => none
  | [a] => r.e sc false a
  | a :: b :: rest => (r.e sc false a).bind fun x => (andE r sc (b :: rest)).map (IE.and x)
def orE (r : Tr) (sc : Scope) : List Expr → Option IE
  | [] => none
  | [a] => r.e sc false a
  | a :: b :: rest => (r.e sc false a).bind fun x => (orE r sc (b :: rest)).map (IE.or x)
def andT (r : Tr) (sc : Scope) : List Expr → Option IB
  | [] => none
  | [a] => r.t sc a
  | a :: b :: rest => (r.t sc a).bind fun x => (andT r sc (b :: rest)).map (IB.and x)
def orT (r : Tr) (sc : Scope) : List Expr → Option IB
  | [] => none
  | [a] => r.t sc a
  | a :: b :: rest => (r.t sc a).bind fun x => (orT r sc (b :: rest)).map (IB.or x)
def biTab : List (Str × BI) := [("len", .len), ("int", .int), ("abs", .abs), ("str", .str), ("list", .list), ("tuple", .tuple), ("max", .max2), ("min", .min2), ("all", .all), ("sorted", .sorted), ("bool", .bool), ("sum", .sum)]
def bNames : List Str := "ZeroDivisionError" :: "isinstance" :: "range" :: "zip" :: "repr" :: (biTab.map (·.1) ++ isTys.map Str.ofString)
def tyOf (sc : Scope) : Expr → Option String
  | .Name y _ => gd (isGl sc y) (isTys.find? fun z => Str.ofString z == y)
  | _ => none
def tysOf (sc : Scope) : List Expr → Option (List String)
  | [] => some []
  | e :: es => (tyOf sc e).bind fun t => (tysOf sc es).map (t :: ·)
def isinE (r : Tr) (sc : Scope) (a : Expr) : List Expr → Option IE
  | [] => none
  | b :: c => match c with
    | [] => (r.e sc false a).bind fun ia => match b with
      | .Tuple ns _ _ => gd (decide (ns.length < 100)) ((tysOf sc ns).map (IE.isin ia))
      | .Name y p => (tyOf sc (.Name y p)).map fun t => IE.isin ia [t]
      | _ => none
    | _ => none
def callN (Γ : Gam) (r : Tr) (sc : Scope) (x : Str) (args : List Expr) : Option IE :=
  gd (isGl sc x && plainN x && noStar args) (match Γ.fs.lookup x with
    | some i => (trL r sc false args).map (IE.call i)
    | none => match args with
      | [] => none
      | a :: rest => match biTab.lookup x with
        | some b => (trL r sc false (a :: rest)).map (IE.bi b)
        | none => if x = ("gcd" : Str) then gd Γ.gcd ((trL r sc false (a :: rest)).map (IE.bi .gcd))
          else if x = ("repr" : Str) then gd Γ.rq ((trL r sc false (a :: rest)).map (IE.bi .repr))
          else gd (x == ("isinstance" : Str)) (isinE r sc a rest))
def callM (r : Tr) (sc : Scope) (o : Expr) (name : Str) (args : List Expr) : Option IE :=
  gd (noCall0 o && noStar args) (match args with
    | [] => gd (name == ("bit_length" : Str)) ((r.e sc false o).map (IE.met0 .bits))
    | [a] => if name = ("join" : Str) then (r.e sc false o).bind fun io => (r.e sc false a).map (IE.met1 .join io)
      else gd (name == ("split" : Str)) ((r.e sc false o).bind fun io => (r.e sc false a).map (IE.met1 .split io))
    | [a, b] => gd (name == ("get" : Str)) ((r.e sc false o).bind fun io => (r.e sc false a).bind fun ia => (r.e sc true b).map (IE.dget2 io ia))
    | _ => none)
def optE (r : Tr) (sc : Scope) : Option Expr → Option IO
  | none => some .none
  | some e => (r.e sc false e).map IO.some
def tgtNs (Γ : Gam) (sc : Scope) : List Expr → Option (List Nat)
  | [] => some []
  | .Name x _ :: es => (locOf Γ sc x).bind fun i => (tgtNs Γ sc es).map (i :: ·)
  | _ => none
def tgtE (Γ : Gam) (sc : Scope) : Expr → Option Tgt
  | .Name x _ => (locOf Γ sc x).map Tgt.name
  | .Tuple es _ _ => (tgtNs Γ sc es).map Tgt.tup
  | _ => none
def isTup : Expr → Bool
  | .Tuple _ _ _ => true
  | _ => false
def notSet : Expr → Bool
  | .Set _ _ _ => false
  | _ => true
def srcN (r : Tr) (sc : Scope) (tg : Expr) (x : Str) (args : List Expr) : Option Src :=
  gd (isGl sc x && noStar args) (match args with
    | [a] => gd (x == ("range" : Str)) ((r.e sc false a).map Src.rng1)
    | [a, b] => if x = ("range" : Str) then (r.e sc false a).bind fun ia => (r.e sc false b).map (Src.rng2 ia)
      else gd (x == ("zip" : Str) && isTup tg) ((r.e sc false a).bind fun ia => (r.e sc false b).map (Src.zip ia))
    | _ => none)
def srcE (r : Tr) (sc : Scope) (tg iter : Expr) : Option Src :=
  gd (notSet iter) (match iter with
    | .Call (.Name x _) args [] _ => match srcN r sc tg x args with
      | some s => some s
      | none => (r.e sc false iter).map Src.seq
    | _ => (r.e sc false iter).map Src.seq)
def ownOf (Γ : Gam) : List (Str × NameKind) → List (Str × Nat)
  | [] => []
  | (x, k) :: r => match k with
    | .local => (match ixOf Γ.N x with | some i => (x, i) :: ownOf Γ r | none => ownOf Γ r)
    | .cell => (match ixOf Γ.N x with | some i => (x, i) :: ownOf Γ r | none => ownOf Γ r)
    | _ => ownOf Γ r
def blkB (sc scope : Scope) : Bool := decide (scope.kind = .function) && scope.names.all (fun y => decide (scope.names.lookup y.1 = some y.2) && (if y.2 = .free then (sc.names.lookup y.1 == some .cell || sc.names.lookup y.1 == some .free) else true))
def ifsE (r : Tr) (sc : Scope) : List Expr → Option IBO
  | [] => some .none
  | [c] => (r.t sc c).map IBO.some
  | _ => none
def lcE (Γ : Gam) (r : Tr) (sc : Scope) (elt tg iter : Expr) (ifs : List Expr) (scope : Scope) : Option IE :=
  gd (blkB sc scope) ((srcE r sc tg iter).bind fun s => (tgtE Γ scope tg).bind fun g => gd ((tgIs g).all fun i => ((ownOf Γ scope.names).map (·.2)).contains i)
    ((ifsE r (relS scope sc) ifs).bind fun c => (r.e (relS scope sc) true elt).map fun e => IE.lc s g c e (ownOf Γ scope.names)))
def dcE (Γ : Gam) (r : Tr) (sc : Scope) (kx vx tg iter : Expr) (ifs : List Expr) (scope : Scope) : Option IE :=
  gd (blkB sc scope) ((srcE r sc tg iter).bind fun s => (tgtE Γ scope tg).bind fun g => gd ((tgIs g).all fun i => ((ownOf Γ scope.names).map (·.2)).contains i)
    ((ifsE r (relS scope sc) ifs).bind fun c => (r.e (relS scope sc) false kx).bind fun k => (r.e (relS scope sc) true vx).map fun v => IE.dc s g c k v (ownOf Γ scope.names)))
def lockW (Γ : Gam) (sc : Scope) (iter : Expr) (ie : IE) : IE :=
  match iter with
  | .Name x _ => if Γ.dn.contains x then (match slotOf Γ sc x with | some i => .lockd i ie | none => ie) else ie
  | _ => ie
def flatKV (r : Tr) (sc : Scope) : List (Option Expr) → List Expr → Option IEs
  | [], [] => some .nil
  | some k :: ks, v :: vs => (r.e sc false k).bind fun a => (r.e sc true v).bind fun b => (flatKV r sc ks vs).map fun c => .cons a (.cons b c)
  | _, _ => none
def dispE (r : Tr) (sc : Scope) (ks : List (Option Expr)) (vs : List Expr) : Option IE :=
  if ks = [] then gd (decide (vs = [])) (some .dnew) else gd (decide (ks.length ≤ 15)) ((flatKV r sc ks vs).map IE.disp)
def callE (Γ : Gam) (r : Tr) (sc : Scope) (f : Expr) (args : List Expr) (kws : List Keyword) (pos : Pos) : Option IE :=
  match kws with
  | [] => match f with
    | .Name x _ => callN Γ r sc x args
    | .Attribute o name apos => gd (apos.endLine == pos.line) (callM r sc o name args)
    | _ => none
  | [⟨some kw, .Name kf _, _⟩] => match f, args with
    | .Name x _, [e] => gd (isGl sc x && x == ("sorted" : Str) && kw == ("key" : Str) && isGl sc kf && plainN kf && noStarE e && (Γ.lf == some kf)) ((r.e sc false e).map IE.sortLF)
    | _, _ => none
  | _ => none
def cmpE (r : Tr) (sc : Scope) (a : Expr) (ops : List CmpOp) (cs : List Expr) : Option IE :=
  match ops, cs with
  | [op], [b] => gd (!behindInMarks op b) ((r.e sc false a).bind fun ia => (r.e sc false b).map (IE.cmp op ia))
  | [op, op'], [b, c] => gd (!behindInMarks op' c) ((r.e sc false a).bind fun ia => (r.e sc false b).bind fun ib => (r.e sc false c).map (IE.chain op op' ia ib))
  | _, _ => none
def subE (r : Tr) (sc : Scope) (a i : Expr) : Option IE :=
  match i with
  | .Slice lo hi none _ => (r.e sc false a).bind fun ia => (optE r sc lo).bind fun il => (optE r sc hi).map (IE.sl ia il)
  | i => gd (!isSl i) ((r.e sc false a).bind fun ia => (r.e sc false i).map (IE.ix ia))
/-- the parts of an f-string -/
def fpartE (r : Tr) (sc : Scope) : Expr → Option IE
  | .FormattedValue e c none _ => gd (c == -1) (r.e sc false e)
  | .Constant (.str s) _ _ => some (.str s)
  | _ => none
def fpartsE (r : Tr) (sc : Scope) : List Expr → Option IEs
  | [] => some .nil
  | e :: es => (fpartE r sc e).bind fun a => (fpartsE r sc es).map (IEs.cons a)
def stepE (Γ : Gam) (r : Tr) (sc : Scope) (mv : Bool) : Expr → Option IE
  | .Name x _ => nameE Γ sc mv x
  | .Constant c _ _ => conE c
  | .BinOp a op b _ => (r.e sc false a).bind fun ia => (r.e sc false b).map (IE.bin op ia)
  | .UnaryOp op a _ => match op with
    | .USub => (r.e sc false a).map IE.neg
    | .Not => (r.e sc false a).map IE.not
    | _ => none
  | .BoolOp op es _ => match op with
    | .And => andE r sc es
    | .Or => orE r sc es
  | .Compare a ops cs _ => cmpE r sc a ops cs
  | .IfExp c a b _ => (r.t sc c).bind fun ic => (r.e sc mv a).bind fun ia => (r.e sc mv b).map (IE.ifx ic ia)
  | .Tuple es _ _ => (trL r sc true es).map IE.tup
  | .List es _ => (trL r sc true es).map IE.lst
  | .Dict ks vs _ => dispE r sc ks vs
  | .DictComp kx vx [⟨tg, iter, ifs, n⟩] scope _ => gd (n == 0) (dcE Γ r sc kx vx tg iter ifs scope)
  | .Call f args kws pos => callE Γ r sc f args kws pos
  | .Subscript a i _ => subE r sc a i
  | .JoinedStr es _ => gd (decide (2 ≤ es.length)) ((fpartsE r sc es).map IE.fstr)
  | .ListComp elt [⟨tg, iter, ifs, n⟩] scope _ => gd (n == 0) ((lcE Γ r sc elt tg iter ifs scope).map (lockW Γ sc iter))
  | _ => none
def stepT (r : Tr) (sc : Scope) : Expr → Option IB
  | .UnaryOp .Not a _ => (r.t sc a).map IB.not
  | .BoolOp op es _ => match op with
    | .And => andT r sc es
    | .Or => orT r sc es
  | .Compare a ops cs _ => (cmpE r sc a ops cs).map IB.val
  | e => gd (plainT e) ((r.e sc false e).map IB.val)
def tr (Γ : Gam) : Nat → Tr
  | 0 => ⟨fun _ _ _ => none, fun _ _ => none⟩
  | n + 1 => ⟨stepE Γ (tr Γ n), stepT (tr Γ n)⟩

/-! # what is known of a place -/
/-- a def that may be called -/
def Callee (gq : Bool) (X : Cx) (C : Nat → List Iv → Res) (D : Nat → Nat → List T) (k : Nat) (x : Str) (i : Nat) : Prop :=
  ∃ f fd ps, X.mg x = some (.ref f) ∧ PySem.W.keepIn X.K (.ref f) = true ∧ FnG gq X.prog X.w X.K X.mg X.base k f fd ps (spF X.K (C i)) ∧
    ∀ n, ∃ dvs ds, Vals dvs ds ∧ (∀ F, DenAll X.K F dvs (D i n)) ∧ Binds X.K fd ps ds
structure Good (gq : Bool) (Γ : Gam) (C : Nat → List Iv → Res) (G : Nat → T) (D : Nat → Nat → List T) (X : Cx) (W : WX) (k : Nat) (sc own : Scope) : Prop where
  scope : X.env.scope = sc
  kind : sc.kind = .function
  N : X.N = Γ.N
  nd : X.N.Nodup
  calm : X.calm = true
  room : Room k X.A
  gd : gq = true → X.A.guards = some []
  rq : Γ.rq = true → gq = true
  takes : Takes X W
  loc : ∀ x, isLoc own x = true → Loc X.env.scope x ∧ (X.fn x = true ∨ X.env.scope.names.lookup x = some .local)
  fn : ∀ x i, Γ.fs.lookup x = some i → Callee gq X C D k x i
  gl : ∀ x j, Γ.gs.lookup x = some j → ∃ v u, X.mg x = some u ∧ RelV v u ∧ ∀ F, Den X.K F v (G j)
  blt : ∀ x ∈ bNames, X.mg x = none
  gcd : Γ.gcd = true → X.mg "gcd" = some (.builtin "math.gcd")
  lf : ∀ x, Γ.lf = some x → ∃ f, X.mg x = some (.ref f) ∧ LfOk X.K X.mg f
theorem isLoc_or {sc : Scope} {x : Str} (h : isLoc sc x = true) : sc.names.lookup x = some .local ∨ sc.names.lookup x = some .cell := by
  simpa [isLoc] using h
theorem Good.blk {gq : Bool} {Γ : Gam} {C : Nat → List Iv → Res} {G : Nat → T} {D : Nat → Nat → List T} {X : Cx} {W : WX} {k : Nat} {sc own scope : Scope} (g : Good gq Γ C G D X W k sc own) (hk : scope.kind = .function) (s : Shared) (H : Hp) (c : Addr) (cl : List (Str × Addr)) (fp : List Addr) :
    Good gq Γ C G D (X.blk s H scope (compEnvC scope cl c X.env) fp) W0 k (relS scope sc) scope where
  scope := by rw [← g.scope]; rfl
  kind := hk
  N := g.N
  nd := g.nd
  calm := g.calm
  room := g.room
  gd := g.gd
  rq := g.rq
  takes := fun u s' x => by
    obtain ⟨_, _, _, _, _, _, _, _, _, _, _, _, _, _, _, _, w⟩ := x
    exact w.elim
  loc := fun x h => by
    have e : (X.blk s H scope (compEnvC scope cl c X.env) fp).env.scope = relS scope X.env.scope := rfl
    rw [e]
    rcases isLoc_or h with h | h
    · have q := lookup_relS_keep (sc := X.env.scope) (by decide) h
      exact ⟨.inl q, .inr q⟩
    · refine ⟨.inr (lookup_relS_keep (by decide) h), .inl ?_⟩
      show (scope.names.lookup x == some .cell) = true
      rw [h]; rfl
  fn := g.fn
  gl := g.gl
  blt := g.blt
  gcd := g.gcd
  lf := g.lf
end G
namespace G
open PySem PySem.Spec PyProof.Rows L2

section
variable {gq : Bool} {Γ : Gam} {C : Nat → List Iv → Res} {G : Nat → T} {D : Nat → Nat → List T}
/-- a translation that may be relied on -/
structure Snd (gq : Bool) (Γ : Gam) (C : Nat → List Iv → Res) (G : Nat → T) (D : Nat → Nat → List T) (r : Tr) : Prop where
  e : ∀ {X W k sc own}, Good gq Γ C G D X W k sc own → ∀ {mv e ie}, r.e sc mv e = some ie → PE X e (tE X.K W (ev C G D ie))
  t : ∀ {X W k sc own}, Good gq Γ C G D X W k sc own → ∀ {e ib}, r.t sc e = some ib → PT X e (_root_.G.tB X.K W (evT C G D ib))
variable {X : Cx} {W : WX} {k : Nat} {sc own : Scope} {r : Tr} {pos : Pos}
theorem plainN_1 {x : Str} (h : plainN x = true) : (x == ("__debug__" : Str)) = false ∧ (x == ("__classdict__" : Str)) = false := by
  unfold plainN at h
  rw [Bool.and_eq_true] at h
  exact ⟨by simpa using h.1, by simpa using h.2⟩
theorem Good.hu (g : Good gq Γ C G D X W k sc own) : X.A.units + 65 < cLine := by have := g.room.un; omega
theorem Good.hu1 (g : Good gq Γ C G D X W k sc own) : X.A.units + 1 < cLine := by have := g.room.un; omega
theorem Good.gl_ (g : Good gq Γ C G D X W k sc own) {x : Str} (h : isGl sc x = true) : Gl X x := by
  show X.env.scope.names.lookup x = _
  rw [g.scope]
  simpa [isGl] using h
theorem vis_of {x : Str} (h : isVis sc x = true) : Vis sc x := by
  unfold isVis at h
  rcases Bool.or_eq_true_iff.mp h with h | h
  · exact (isLoc_or h).imp id .inl
  · exact .inr (.inr (by simpa using h))
theorem slot_ok (g : Good gq Γ C G D X W k sc own) {x : Str} {i : Nat} (h : slotOf Γ sc x = some i) : PE X (.Name x pos) (tVar i) := by
  unfold slotOf at h
  obtain ⟨h1, h2⟩ := gd_some.mp h
  rw [Bool.and_eq_true] at h1
  obtain ⟨p1, p2⟩ := plainN_1 h1.2
  exact pe_var (by rw [g.N]; exact ixOf_get h2) (by rw [g.scope]; exact vis_of h1.1) p1 p2
theorem name_ok (g : Good gq Γ C G D X W k sc own) {x : Str} {mv : Bool} {ie : IE} (h : nameE Γ sc mv x = some ie) : PE X (.Name x pos) (tE X.K W (ev C G D ie)) := by
  unfold nameE at h
  split at h
  · rename_i i hs
    cases mv with
    | true => cases h; exact se_mov (slot_ok g hs)
    | false => cases h; exact se_var (slot_ok g hs)
  · obtain ⟨h1, h2⟩ := gd_some.mp h
    rw [Bool.and_eq_true] at h1
    obtain ⟨j, hj, rfl⟩ := Option.map_eq_some_iff.mp h2
    obtain ⟨v, u, hm, hr, hd⟩ := g.gl x j hj
    exact se_con (pe_glob (g.gl_ h1.1) hm hr (plainN_1 h1.2).1) hd
theorem con_ok {c : Const} {n : Nat} {ie : IE} (h : conE c = some ie) : PE X (.Constant c n pos) (tE X.K W (ev C G D ie)) := by
  cases c <;> simp [conE] at h <;> subst h
  · exact se_con pe_non fun _ => .non
  · exact se_con pe_bl fun _ => .bl _
  · exact se_con pe_int fun _ => .int _
  · exact se_con pe_str fun _ => .str _
theorem trL_ok (S : Snd gq Γ C G D r) (g : Good gq Γ C G D X W k sc own) {mv : Bool} : ∀ {es : List Expr} {ies : IEs}, trL r sc mv es = some ies → PA X es (tA X.K W (evs C G D ies)) ∧ ies.len = es.length
  | [], ies, h => by cases h; exact ⟨sa_nil, rfl⟩
  | e :: es, ies, h => by
    unfold trL at h
    obtain ⟨h1, h2⟩ := gd_some.mp h
    simp only [Option.bind_eq_some_iff, Option.map_eq_some_iff] at h2
    obtain ⟨a, ha, as, has, rfl⟩ := h2
    obtain ⟨q1, q2⟩ := trL_ok S g has
    exact ⟨sa_cons (S.e g ha) q1 (star_ne h1), by show as.len + 1 = _; rw [q2]; rfl⟩
theorem andE_ok (S : Snd gq Γ C G D r) (g : Good gq Γ C G D X W k sc own) : ∀ {es : List Expr} {ie : IE}, andE r sc es = some ie → PE X (.BoolOp .And es pos) (tE X.K W (ev C G D ie))
  | [], _, h => by simp [andE] at h
  | [a], _, h => pe_one (S.e g h)
  | a :: b :: rest, ie, h => by
    simp only [andE, Option.bind_eq_some_iff, Option.map_eq_some_iff] at h
    obtain ⟨x, hx, y, hy, rfl⟩ := h
    exact se_and (S.e g hx) (andE_ok S g hy)
theorem orE_ok (S : Snd gq Γ C G D r) (g : Good gq Γ C G D X W k sc own) : ∀ {es : List Expr} {ie : IE}, orE r sc es = some ie → PE X (.BoolOp .Or es pos) (tE X.K W (ev C G D ie))
  | [], _, h => by simp [orE] at h
  | [a], _, h => pe_one (S.e g h)
  | a :: b :: rest, ie, h => by
    simp only [orE, Option.bind_eq_some_iff, Option.map_eq_some_iff] at h
    obtain ⟨x, hx, y, hy, rfl⟩ := h
    exact se_or (S.e g hx) (orE_ok S g hy)
theorem andT_ok (S : Snd gq Γ C G D r) (g : Good gq Γ C G D X W k sc own) : ∀ {es : List Expr} {ie : IB}, andT r sc es = some ie → PW X (.BoolOp .And es pos) (_root_.G.tB X.K W (evT C G D ie))
  | [], _, h => by simp [andT] at h
  | [a], _, h => pw_and1 (S.t g h)
  | a :: b :: rest, ie, h => by
    simp only [andT, Option.bind_eq_some_iff, Option.map_eq_some_iff] at h
    obtain ⟨x, hx, y, hy, rfl⟩ := h
    exact st_and (S.t g hx) (andT_ok S g hy)
theorem orT_ok (S : Snd gq Γ C G D r) (g : Good gq Γ C G D X W k sc own) : ∀ {es : List Expr} {ie : IB}, orT r sc es = some ie → PW X (.BoolOp .Or es pos) (_root_.G.tB X.K W (evT C G D ie))
  | [], _, h => by simp [orT] at h
  | [a], _, h => pw_or1 (S.t g h)
  | a :: b :: rest, ie, h => by
    simp only [orT, Option.bind_eq_some_iff, Option.map_eq_some_iff] at h
    obtain ⟨x, hx, y, hy, rfl⟩ := h
    exact st_or (S.t g hx) (orT_ok S g hy)
theorem cmp_ok (S : Snd gq Γ C G D r) (g : Good gq Γ C G D X W k sc own) {a : Expr} {ops : List CmpOp} {cs : List Expr} {ie : IE} (h : cmpE r sc a ops cs = some ie) :
    PE X (.Compare a ops cs pos) (tE X.K W (ev C G D ie)) ∧ PT X (.Compare a ops cs pos) (_root_.G.tB X.K W (evT C G D (.val ie))) := by
  unfold cmpE at h
  split at h
  · obtain ⟨h1, h2⟩ := gd_some.mp h
    simp only [Option.bind_eq_some_iff, Option.map_eq_some_iff] at h2
    obtain ⟨ia, ha, ib, hb, rfl⟩ := h2
    exact ⟨se_cmp g.hu (S.e g ha) (S.e g hb) (by simpa using h1), st_cmp g.hu (S.e g ha) (S.e g hb) (by simpa using h1)⟩
  · obtain ⟨h1, h2⟩ := gd_some.mp h
    simp only [Option.bind_eq_some_iff, Option.map_eq_some_iff] at h2
    obtain ⟨ia, ha, ib, hb, ic, hc, rfl⟩ := h2
    exact ⟨se_chain g.hu (S.e g ha) (S.e g hb) (S.e g hc) (by simpa using h1), st_chain g.hu (S.e g ha) (S.e g hb) (S.e g hc) (by simpa using h1)⟩
  · cases h
/-! ## calls -/
def biKind (x : Str) (b : BI) : Bool := (match biVal b with
  | .builtin id => decide (bootBuiltins x = some (.builtin id))
  | .type id => decide (bootBuiltins x = some (.type id))
  | _ => false) && decide (b ≠ .repr) && decide (x ≠ "__name__") && bNames.contains x
theorem biTab_ok : (biTab.all fun p => biKind p.1 p.2) = true := by decide +kernel
theorem lookup_mem {α : Type} : ∀ {l : List (Str × α)} {x : Str} {b : α}, l.lookup x = some b → (x, b) ∈ l
  | [], _, _, h => by simp at h
  | (y, c) :: l, x, b, h => by
    rw [List.lookup_cons] at h
    split at h
    · rename_i e
      cases h
      have : x = y := by simpa using e
      subst this
      exact List.mem_cons_self
    · exact List.mem_cons_of_mem _ (lookup_mem h)
theorem bi_ok (g : Good gq Γ C G D X W k sc own) {x : Str} {p : Pos} {b : BI} {a : Expr} {es : List Expr} {ms : Env → Out (List R)} (hb : biTab.lookup x = some b) (hg : isGl sc x = true) (hp : plainN x = true) (hs : noStar (a :: es) = true) (ha : PA X (a :: es) (tA X.K W ms)) :
    PE X (.Call (.Name x p) (a :: es) [] pos) (tE X.K W (mBI b ms)) := by
  have h := biTab_ok
  rw [List.all_eq_true] at h
  have h1 := h _ (lookup_mem hb)
  unfold biKind at h1
  simp only [Bool.and_eq_true, decide_eq_true_eq] at h1
  obtain ⟨⟨⟨h2, h3⟩, h4⟩, h5⟩ := h1
  have hm : X.mg x = none := g.blt x (by simpa using h5)
  have hc := cr_BI (X := X) g.calm b h3
  cases ev : biVal b with
  | builtin id =>
    rw [ev] at h2 hc
    exact se_biB hc (g.gl_ hg) hm (by simpa using h2) ha hs h4 (plainN_1 hp).1
  | type id =>
    rw [ev] at h2 hc
    exact se_biT hc (g.gl_ hg) hm (by simpa using h2) ha hs h4 (plainN_1 hp).1
  | _ => rw [ev] at h2; simp at h2
theorem isTys_ok : (isTys.all fun t => decide (bootBuiltins (Str.ofString t) = some (.type t)) && bNames.contains (Str.ofString t) && plainN (Str.ofString t) && decide (Str.ofString t ≠ "__name__")) = true := by decide +kernel
theorem ty_ok (g : Good gq Γ C G D X W k sc own) {e : Expr} {t : String} (h : tyOf sc e = some t) : ∃ y p, e = .Name y p ∧ t ∈ isTys ∧ PE X (.Name y p) (tC (.ty t)) := by
  unfold tyOf at h
  split at h
  · rename_i y p
    obtain ⟨h1, h2⟩ := gd_some.mp h
    have hm := List.mem_of_find?_eq_some h2
    have he := List.find?_some h2
    have he : Str.ofString t = y := by simpa using he
    subst he
    have q := isTys_ok
    rw [List.all_eq_true] at q
    have q1 := q t hm
    simp only [Bool.and_eq_true, decide_eq_true_eq] at q1
    obtain ⟨⟨⟨q1, q2⟩, q3⟩, q4⟩ := q1
    exact ⟨_, p, rfl, hm, pe_bltn (g.gl_ h1) (g.blt _ (by simpa using q2)) q1 rfl q4 (plainN_1 q3).1⟩
  · cases h
theorem tys_ok (g : Good gq Γ C G D X W k sc own) : ∀ {es : List Expr} {ts : List String}, tysOf sc es = some ts → (PA X es fun _ H Q => Q (ts.map V.ty) H) ∧ (∀ t ∈ ts, t ∈ isTys) ∧ ts.length = es.length
  | [], ts, h => by cases h; exact ⟨pa_nil, by simp, rfl⟩
  | e :: es, ts, h => by
    simp only [tysOf, Option.bind_eq_some_iff, Option.map_eq_some_iff] at h
    obtain ⟨t, ht, ts', hts, rfl⟩ := h
    obtain ⟨y, p, rfl, hm, hp⟩ := ty_ok g ht
    obtain ⟨q1, q2, q3⟩ := tys_ok g hts
    exact ⟨pa_cons hp q1, by simpa using ⟨hm, q2⟩, by simp [q3]⟩
theorem isin_ok (S : Snd gq Γ C G D r) (g : Good gq Γ C G D X W k sc own) {p : Pos} {a : Expr} {rest : List Expr} {ie : IE} (hg : isGl sc "isinstance" = true) (hs : noStarE a = true) (h : isinE r sc a rest = some ie) : PE X (.Call (.Name "isinstance" p) (a :: rest) [] pos) (tE X.K W (ev C G D ie)) := by
  have hmi : X.mg "isinstance" = none := g.blt _ (by unfold bNames; simp)
  cases rest with
  | nil => cases h
  | cons b c =>
    cases c with
    | cons _ _ => cases h
    | nil =>
      obtain ⟨ia, ha, h2⟩ := Option.bind_eq_some_iff.mp h
      cases b with
      | Tuple ns k1 p1 =>
        obtain ⟨hz, h2⟩ := gd_some.mp h2
        obtain ⟨ts, ht, rfl⟩ := Option.map_eq_some_iff.mp h2
        obtain ⟨q1, q2, q3⟩ := tys_ok g ht
        have hz : ns.length < 100 := by simpa using hz
        exact se_isinN (g.gl_ hg) hmi (S.e g ha) q1 hs q2 (by rw [q3]; exact Nat.le_trans (Nat.le_of_lt hz) (by decide))
      | Name y p2 =>
        obtain ⟨t, ht, rfl⟩ := Option.map_eq_some_iff.mp h2
        obtain ⟨y', p', e, hm, hp'⟩ := ty_ok g ht
        cases e
        exact se_isin1 (g.gl_ hg) hmi (S.e g ha) hp' hs hm
      | _ => cases h2
theorem callN_ok (S : Snd gq Γ C G D r) (g : Good gq Γ C G D X W k sc own) {x : Str} {p : Pos} {args : List Expr} {ie : IE} (h : callN Γ r sc x args = some ie) : PE X (.Call (.Name x p) args [] pos) (tE X.K W (ev C G D ie)) := by
  unfold callN at h
  obtain ⟨h1, h2⟩ := gd_some.mp h
  simp only [Bool.and_eq_true] at h1
  obtain ⟨⟨hg, hp⟩, hs⟩ := h1
  split at h2
  · rename_i i hi
    obtain ⟨ies, hes, rfl⟩ := Option.map_eq_some_iff.mp h2
    obtain ⟨pa, hl⟩ := trL_ok S g hes
    obtain ⟨f, fd, ps, hm, hk, Fn, hd⟩ := g.fn x i hi
    obtain ⟨dvs, ds, hv, hdd, hb⟩ := hd ies.len
    cases args with
    | nil => 
      cases hes
      exact se_call0 Fn g.room g.gd (g.gl_ hg) hm hk hb hv hdd g.takes (plainN_1 hp).1
    | cons a rest => exact se_call Fn g.room g.gd (g.gl_ hg) hm hk hb hv hdd g.takes pa (plainN_1 hp).1 hs
  · split at h2
    · cases h2
    · rename_i a rest
      split at h2
      · rename_i b hb
        obtain ⟨ies, hes, rfl⟩ := Option.map_eq_some_iff.mp h2
        exact bi_ok g hb hg hp hs (trL_ok S g hes).1
      · split at h2
        · rename_i e
          subst e
          obtain ⟨hgc, h2⟩ := gd_some.mp h2
          obtain ⟨ies, hes, rfl⟩ := Option.map_eq_some_iff.mp h2
          exact se_biG (b := .gcd) (cr_BI g.calm .gcd (by decide)) (g.gl_ hg) (g.gcd hgc) (trL_ok S g hes).1 hs (plainN_1 hp).1
        · split at h2
          · rename_i e
            subst e
            obtain ⟨hgc, h2⟩ := gd_some.mp h2
            obtain ⟨ies, hes, rfl⟩ := Option.map_eq_some_iff.mp h2
            have hm : X.mg "repr" = none := g.blt _ (by unfold bNames; simp)
            exact se_biB (b := .repr) (cr_repr (g.gd (g.rq hgc)) g.hu) (g.gl_ hg) hm (by decide +kernel) (trL_ok S g hes).1 hs (by decide +kernel) (plainN_1 hp).1
          obtain ⟨hx, h2⟩ := gd_some.mp h2
          have hx : x = "isinstance" := by simpa using hx
          subst hx
          have hs' : noStarE a = true ∧ noStar rest = true := by simpa [noStar] using hs
          exact isin_ok S g hg hs'.1 h2
end
end G
namespace G
open PySem PySem.Spec PyProof.Rows L2

section
variable {gq : Bool} {Γ : Gam} {C : Nat → List Iv → Res} {G : Nat → T} {D : Nat → Nat → List T}
variable {X : Cx} {W : WX} {k : Nat} {sc own : Scope} {r : Tr} {pos : Pos}
theorem callM_ok (S : Snd gq Γ C G D r) (g : Good gq Γ C G D X W k sc own) {o : Expr} {name : Str} {apos : Pos} {args : List Expr} {ie : IE} (hl : (apos.endLine == pos.line) = true) (h : callM r sc o name args = some ie) :
    PE X (.Call (.Attribute o name apos) args [] pos) (tE X.K W (ev C G D ie)) := by
  unfold callM at h
  obtain ⟨h1, h2⟩ := gd_some.mp h
  rw [Bool.and_eq_true] at h1
  obtain ⟨hb, hs⟩ := h1
  clear h
  revert h2 hs
  intro h3 hs3
  match args, h3, hs3 with
  | [], q1, hs =>
    obtain ⟨hn, q2⟩ := gd_some.mp q1
    have hn : name = "bit_length" := by simpa using hn
    subst hn
    obtain ⟨io, ho, rfl⟩ := Option.map_eq_some_iff.mp q2
    exact se_bits (S.e g ho) hb hl
  | [a], q1, hs =>
    have hs' : noStarE a = true := by simpa [noStar] using hs
    have q9 : (if name = ("join" : Str) then (r.e sc false o).bind fun io => (r.e sc false a).map (IE.met1 .join io)
      else gd (name == ("split" : Str)) ((r.e sc false o).bind fun io => (r.e sc false a).map (IE.met1 .split io))) = some ie := q1
    by_cases e : name = ("join" : Str)
    · rw [if_pos e] at q9
      subst e
      simp only [Option.bind_eq_some_iff, Option.map_eq_some_iff] at q9
      obtain ⟨io, ho, ia, ha, rfl⟩ := q9
      exact se_join (S.e g ho) (S.e g ha) hb hs' hl
    · rw [if_neg e] at q9
      obtain ⟨hn, q2⟩ := gd_some.mp q9
      have hn : name = "split" := by simpa using hn
      subst hn
      simp only [Option.bind_eq_some_iff, Option.map_eq_some_iff] at q2
      obtain ⟨io, ho, ia, ha, rfl⟩ := q2
      exact se_split (S.e g ho) (S.e g ha) hb hs' hl
  | [a, b], q1, hs =>
    obtain ⟨hn, q2⟩ := gd_some.mp q1
    have hn : name = "get" := by simpa using hn
    subst hn
    simp only [Option.bind_eq_some_iff, Option.map_eq_some_iff] at q2
    obtain ⟨io, ho, ia, ha, ib, hb', rfl⟩ := q2
    exact se_dget2 g.hu1 (S.e g ho) (S.e g ha) (S.e g hb') hb hs hl
  | _ :: _ :: _ :: _, q1, hs => cases q1
theorem call_ok (S : Snd gq Γ C G D r) (g : Good gq Γ C G D X W k sc own) {f : Expr} {args : List Expr} {kws : List Keyword} {ie : IE} (h : callE Γ r sc f args kws pos = some ie) : PE X (.Call f args kws pos) (tE X.K W (ev C G D ie)) := by
  unfold callE at h
  split at h
  · split at h
    · exact callN_ok S g h
    · obtain ⟨hl, h2⟩ := gd_some.mp h
      exact callM_ok S g hl h2
    · cases h
  · split at h
    · rename_i kw kf p1 p2 _ _ x p3 e
      obtain ⟨h1, h2⟩ := gd_some.mp h
      simp only [Bool.and_eq_true] at h1
      obtain ⟨⟨⟨⟨⟨⟨c1, c2⟩, c3⟩, c4⟩, c5⟩, c6⟩, c7⟩ := h1
      have c2 : x = "sorted" := by simpa using c2
      have c3 : kw = "key" := by simpa using c3
      subst c2 c3
      obtain ⟨ie, he, rfl⟩ := Option.map_eq_some_iff.mp h2
      obtain ⟨fa, hm, hL⟩ := g.lf kf (by simpa using c7)
      exact se_sortLF hL g.room.depth g.hu (g.gl_ c1) (g.blt _ (by unfold bNames biTab; simp)) (g.gl_ c4) hm (plainN_1 c5).1 (S.e g he) c6
    · cases h
  · cases h
theorem opt_ok (S : Snd gq Γ C G D r) (g : Good gq Γ C G D X W k sc own) {o : Option Expr} {io : IO} (h : optE r sc o = some io) : PO X o (tO X.K W (evO C G D io)) := by
  cases o with
  | none => cases h; exact so_none
  | some e =>
    obtain ⟨ie, he, rfl⟩ := Option.map_eq_some_iff.mp h
    exact so_some (S.e g he)
theorem sub_ok (S : Snd gq Γ C G D r) (g : Good gq Γ C G D X W k sc own) {a i : Expr} {ie : IE} (h : subE r sc a i = some ie) : PE X (.Subscript a i pos) (tE X.K W (ev C G D ie)) := by
  unfold subE at h
  split at h
  · simp only [Option.bind_eq_some_iff, Option.map_eq_some_iff] at h
    obtain ⟨ia, ha, il, hl, ih, hh, rfl⟩ := h
    exact se_sl (S.e g ha) (opt_ok S g hl) (opt_ok S g hh)
  · obtain ⟨h1, h2⟩ := gd_some.mp h
    simp only [Option.bind_eq_some_iff, Option.map_eq_some_iff] at h2
    obtain ⟨ia, ha, ii, hi, rfl⟩ := h2
    exact se_ix g.hu1 (S.e g ha) (S.e g hi) (plainIx (by simpa using h1))
/-! ## targets, sources, comprehensions -/
theorem loc_ok (g : Good gq Γ C G D X W k sc own) {x : Str} {i : Nat} (h : locOf Γ own x = some i) : X.N[i]? = some x ∧ Loc X.env.scope x ∧ (X.fn x = true ∨ X.env.scope.names.lookup x = some .local) ∧ plainN x = true := by
  unfold locOf at h
  obtain ⟨h1, h2⟩ := gd_some.mp h
  rw [Bool.and_eq_true] at h1
  obtain ⟨q1, q2⟩ := g.loc x h1.1
  exact ⟨by rw [g.N]; exact ixOf_get h2, q1, q2, h1.2⟩
theorem tgtNs_ok (g : Good gq Γ C G D X W k sc own) : ∀ {es : List Expr} {is : List Nat}, tgtNs Γ own es = some is → PGs X es (gNames is) ∧ (assignEach es X.env).length = is.length ∧ (assignEach es X.env).findIdx? (·.1) = none
  | [], is, h => by cases h; exact ⟨pgs_nil, rfl, rfl⟩
  | e :: es, is, h => by
    cases e with
    | Name x p =>
      simp only [tgtNs, Option.bind_eq_some_iff, Option.map_eq_some_iff] at h
      obtain ⟨i, hi, is', his, rfl⟩ := h
      obtain ⟨q1, q2, q3⟩ := tgtNs_ok g his
      obtain ⟨l1, l2, l3, l4⟩ := loc_ok g hi
      refine ⟨pgs_cons (pg_name g.nd l1 l2 l3) q1 rfl, ?_, ?_⟩
      · show ((false, assign (.Name x p) X.env) :: assignEach es X.env).length = _
        simp [q2]
      · show ((false, assign (.Name x p) X.env) :: assignEach es X.env).findIdx? (·.1) = none
        rw [List.findIdx?_cons]
        simp [q3]
    | _ => simp [tgtNs] at h
theorem tgt_sound (g : Good gq Γ C G D X W k sc own) {tg : Expr} {t : Tgt} (h : tgtE Γ own tg = some t) : PG X tg (gTgt X.K t) := by
  unfold tgtE at h
  split at h
  · obtain ⟨i, hi, rfl⟩ := Option.map_eq_some_iff.mp h
    obtain ⟨l1, l2, l3, l4⟩ := loc_ok g hi
    exact pg_name g.nd l1 l2 l3
  · obtain ⟨is, his, rfl⟩ := Option.map_eq_some_iff.mp h
    obtain ⟨q1, q2, q3⟩ := tgtNs_ok g his
    exact pg_tup g.calm q1 q2 q3
  · cases h
theorem srcN_ok (S : Snd gq Γ C G D r) (g : Good gq Γ C G D X W k sc own) {tg : Expr} {x : Str} {p : Pos} {args : List Expr} {s : Src} (h : srcN r sc tg x args = some s) : PI X tg (.Call (.Name x p) args [] pos) (tSrc X.K W (evSrc C G D s)) := by
  unfold srcN at h
  obtain ⟨h1, h2⟩ := gd_some.mp h
  rw [Bool.and_eq_true] at h1
  obtain ⟨hg, hs⟩ := h1
  clear h
  revert h2 hs
  intro h3 hs3
  match args, h3, hs3 with
  | [], q1, _ => cases q1
  | [a], q1, hs =>
    obtain ⟨hn, q2⟩ := gd_some.mp q1
    have hn : x = "range" := by simpa using hn
    subst hn
    obtain ⟨ia, ha, rfl⟩ := Option.map_eq_some_iff.mp q2
    exact pi_rng1 (g.gl_ hg) (g.blt _ (by unfold bNames; simp)) (S.e g ha) (by simpa [noStar] using hs)
  | [a, b], q1, hs =>
    have hs' : noStarE a = true ∧ noStarE b = true := by simpa [noStar] using hs
    have q9 : (if x = ("range" : Str) then (r.e sc false a).bind fun ia => (r.e sc false b).map (Src.rng2 ia)
      else gd (x == ("zip" : Str) && isTup tg) ((r.e sc false a).bind fun ia => (r.e sc false b).map (Src.zip ia))) = some s := q1
    by_cases e : x = ("range" : Str)
    · rw [if_pos e] at q9
      subst e
      simp only [Option.bind_eq_some_iff, Option.map_eq_some_iff] at q9
      obtain ⟨ia, ha, ib, hb, rfl⟩ := q9
      exact pi_rng2 (g.gl_ hg) (g.blt _ (by unfold bNames; simp)) (S.e g ha) (S.e g hb) hs'.1 hs'.2
    · rw [if_neg e] at q9
      obtain ⟨hn, q2⟩ := gd_some.mp q9
      rw [Bool.and_eq_true] at hn
      have hx : x = "zip" := by simpa using hn.1
      subst hx
      simp only [Option.bind_eq_some_iff, Option.map_eq_some_iff] at q2
      obtain ⟨ia, ha, ib, hb, rfl⟩ := q2
      cases tg with
      | Tuple es kk tp => exact pi_zip (g.gl_ hg) (g.blt _ (by unfold bNames; simp)) (S.e g ha) (S.e g hb) hs'.1 hs'.2
      | _ => exact absurd hn.2 (by simp [isTup])
  | _ :: _ :: _ :: _, q1, _ => cases q1
theorem src_sound (S : Snd gq Γ C G D r) (g : Good gq Γ C G D X W k sc own) {tg iter : Expr} {s : Src} (h : srcE r sc tg iter = some s) : PI X tg iter (tSrc X.K W (evSrc C G D s)) ∧ ∀ v, foldedSetIterable iter X.env v = pure v := by
  unfold srcE at h
  obtain ⟨h1, h2⟩ := gd_some.mp h
  refine ⟨?_, iter_plain (fun es kk p e => by subst e; simp [notSet] at h1) _⟩
  split at h2
  · split at h2
    · cases h2
      exact srcN_ok S g (by assumption)
    · obtain ⟨ie, he, rfl⟩ := Option.map_eq_some_iff.mp h2
      exact pi_seq (S.e g he)
  · obtain ⟨ie, he, rfl⟩ := Option.map_eq_some_iff.mp h2
    exact pi_seq (S.e g he)
theorem ownOf_ok : ∀ {l : List (Str × NameKind)}, (∀ p ∈ ownOf Γ l, Γ.N[p.2]? = some p.1) ∧ ∀ y ∈ l, y.2 = .local ∨ y.2 = .cell → y.1 ∈ (ownOf Γ l).map (·.1) ∨ y.1 ∉ Γ.N
  | [] => by simp [ownOf]
  | (x, kd) :: l => by
    obtain ⟨h1, h2⟩ := ownOf_ok (l := l)
    have hit : ∀ i, ixOf Γ.N x = some i → (∀ p ∈ (x, i) :: ownOf Γ l, Γ.N[p.2]? = some p.1) ∧ ∀ y ∈ (x, kd) :: l, y.2 = .local ∨ y.2 = .cell → y.1 ∈ ((x, i) :: ownOf Γ l).map (·.1) ∨ y.1 ∉ Γ.N := fun i hi => by
      refine ⟨fun p hp => ?_, fun y hy hk => ?_⟩
      · rcases List.mem_cons.mp hp with rfl | hp
        · exact ixOf_get hi
        · exact h1 p hp
      · rcases List.mem_cons.mp hy with rfl | hy
        · exact .inl (by simp)
        · exact (h2 y hy hk).imp (fun z => List.mem_cons_of_mem _ z) id
    have mis : ixOf Γ.N x = none → (∀ p ∈ ownOf Γ l, Γ.N[p.2]? = some p.1) ∧ ∀ y ∈ (x, kd) :: l, y.2 = .local ∨ y.2 = .cell → y.1 ∈ (ownOf Γ l).map (·.1) ∨ y.1 ∉ Γ.N := fun hi => by
      refine ⟨h1, fun y hy hk => ?_⟩
      rcases List.mem_cons.mp hy with rfl | hy
      · exact .inr (ixOf_none hi)
      · exact h2 y hy hk
    have oth : (kd ≠ .local) → (kd ≠ .cell) → (∀ p ∈ ownOf Γ l, Γ.N[p.2]? = some p.1) ∧ ∀ y ∈ (x, kd) :: l, y.2 = .local ∨ y.2 = .cell → y.1 ∈ (ownOf Γ l).map (·.1) ∨ y.1 ∉ Γ.N := fun n1 n2 => by
      refine ⟨h1, fun y hy hk => ?_⟩
      rcases List.mem_cons.mp hy with rfl | hy
      · exact absurd hk (by simp [n1, n2])
      · exact h2 y hy hk
    cases kd with
    | «local» =>
      unfold ownOf
      cases e : ixOf Γ.N x with
      | some i => exact hit i e
      | none => exact mis e
    | cell =>
      unfold ownOf
      cases e : ixOf Γ.N x with
      | some i => exact hit i e
      | none => exact mis e
    | free => exact oth (by decide) (by decide)
    | globalExplicit => exact oth (by decide) (by decide)
    | globalImplicit => exact oth (by decide) (by decide)
theorem blk_ok (g : Good gq Γ C G D X W k sc own) {scope : Scope} (h : blkB sc scope = true) : BlkOk X.N X.env.scope scope (ownOf Γ scope.names) ∧ scope.kind = .function := by
  unfold blkB at h
  rw [Bool.and_eq_true, List.all_eq_true] at h
  have hk : scope.kind = .function := by simpa using h.1
  refine ⟨⟨hk, fun y hy => ?_, fun p hp => ?_, fun y hy e => ?_, fun y hy e => ?_⟩, hk⟩
  · have := h.2 y hy
    rw [Bool.and_eq_true] at this
    simpa using this.1
  · rw [g.N]; exact (ownOf_ok (Γ := Γ)).1 p hp
  · have := h.2 y hy
    rw [Bool.and_eq_true, if_pos e] at this
    rw [g.scope]
    simpa using this.2
  · rw [g.N]; exact (ownOf_ok (Γ := Γ)).2 y hy e
theorem ifs_ok (S : Snd gq Γ C G D r) (g : Good gq Γ C G D X W k sc own) {ifs : List Expr} {c : IBO} (h : ifsE r sc ifs = some c) : PTs X ifs (_root_.G.tB X.K W (evC C G D c)) := by
  unfold ifsE at h
  split at h
  · cases h
    exact ⟨fun pins s σ H Q I ⟨env, F, fp, E, q⟩ => pts_nil.run pins s σ H Q I (q H F fp E Stp.refl)⟩
  · obtain ⟨ib, hb, rfl⟩ := Option.map_eq_some_iff.mp h
    exact pts_one (S.t g hb)
  · cases h
/-- what a comprehension's parts are -/
structure LcOk (Γ : Gam) (C : Nat → List Iv → Res) (G : Nat → T) (D : Nat → Nat → List T) (X : Cx) (W : WX) (elt tg iter : Expr) (ifs : List Expr) (scope : Scope) (s : Src) (t : Tgt) (c : IBO) (e : IE) : Prop where
  src : PI X tg iter (tSrc X.K W (evSrc C G D s))
  fold : ∀ v, foldedSetIterable iter X.env v = pure v
  blk : BlkOk X.N X.env.scope scope (ownOf Γ scope.names)
  tgt : ∀ (s : Shared) (H : Hp) (C : Addr) (cl : List (Str × Addr)) (fp : List Addr), PG (X.blk s H scope (compEnvC scope cl C X.env) fp) tg (gTgt X.K t)
  cond : ∀ (s : Shared) (H : Hp) (a : Addr) (cl : List (Str × Addr)) (fp : List Addr), PTs (X.blk s H scope (compEnvC scope cl a X.env) fp) ifs (_root_.G.tB X.K W0 (evC C G D c))
  elt : ∀ (s : Shared) (H : Hp) (a : Addr) (cl : List (Str × Addr)) (fp : List Addr), PE (X.blk s H scope (compEnvC scope cl a X.env) fp) elt (tE X.K W0 (ev C G D e))
  tgi : ∀ i ∈ tgIs t, i ∈ (ownOf Γ scope.names).map (·.2)
theorem lc_ok (S : Snd gq Γ C G D r) (g : Good gq Γ C G D X W k sc own) {elt tg iter : Expr} {ifs : List Expr} {scope : Scope} {ie : IE} (h : lcE Γ r sc elt tg iter ifs scope = some ie) :
    ∃ s t c e, ie = .lc s t c e (ownOf Γ scope.names) ∧ LcOk Γ C G D X W elt tg iter ifs scope s t c e := by
  unfold lcE at h
  obtain ⟨h1, h2⟩ := gd_some.mp h
  obtain ⟨s, hs, h2⟩ := Option.bind_eq_some_iff.mp h2
  obtain ⟨t, ht, h2⟩ := Option.bind_eq_some_iff.mp h2
  obtain ⟨h3, h2⟩ := gd_some.mp h2
  simp only [Option.bind_eq_some_iff, Option.map_eq_some_iff] at h2
  obtain ⟨c, hc, e, he, rfl⟩ := h2
  obtain ⟨b1, b2⟩ := blk_ok g h1
  obtain ⟨s1, s2⟩ := src_sound S g hs
  rw [List.all_eq_true] at h3
  exact ⟨s, t, c, e, rfl, s1, s2, b1, fun s' H a cl fp => tgt_sound (g.blk b2 s' H a cl fp) ht, fun s' H a cl fp => ifs_ok S (g.blk b2 s' H a cl fp) hc, fun s' H a cl fp => S.e (g.blk b2 s' H a cl fp) he, fun i hi => by simpa using h3 i hi⟩
theorem lc_pe (g : Good gq Γ C G D X W k sc own) {elt tg iter : Expr} {ifs : List Expr} {scope : Scope} {s : Src} {t : Tgt} {c : IBO} {e : IE} (L : LcOk Γ C G D X W elt tg iter ifs scope s t c e) :
    PE X (.ListComp elt [⟨tg, iter, ifs, 0⟩] scope pos) (tE X.K W (ev C G D (.lc s t c e (ownOf Γ scope.names)))) :=
  pe_imp (pe_lc g.calm g.nd L.src L.blk L.tgt L.cond L.elt L.fold) fun σ H Q q => lc_imp L.tgi q
theorem dc_ok (S : Snd gq Γ C G D r) (g : Good gq Γ C G D X W k sc own) {kx vx tg iter : Expr} {ifs : List Expr} {scope : Scope} {ie : IE} (h : dcE Γ r sc kx vx tg iter ifs scope = some ie) :
    ∃ s t c ki vi, ie = .dc s t c ki vi (ownOf Γ scope.names) ∧ LcOk Γ C G D X W kx tg iter ifs scope s t c ki ∧ (∀ (s : Shared) (H : Hp) (a : Addr) (cl : List (Str × Addr)) (fp : List Addr), PE (X.blk s H scope (compEnvC scope cl a X.env) fp) vx (tE X.K W0 (ev C G D vi))) := by
  unfold dcE at h
  obtain ⟨h1, h2⟩ := gd_some.mp h
  obtain ⟨s, hs, h2⟩ := Option.bind_eq_some_iff.mp h2
  obtain ⟨t, ht, h2⟩ := Option.bind_eq_some_iff.mp h2
  obtain ⟨h3, h2⟩ := gd_some.mp h2
  simp only [Option.bind_eq_some_iff, Option.map_eq_some_iff] at h2
  obtain ⟨c, hc, ki, hk, vi, hv, rfl⟩ := h2
  obtain ⟨b1, b2⟩ := blk_ok g h1
  obtain ⟨s1, s2⟩ := src_sound S g hs
  rw [List.all_eq_true] at h3
  exact ⟨s, t, c, ki, vi, rfl, ⟨s1, s2, b1, fun s' H a cl fp => tgt_sound (g.blk b2 s' H a cl fp) ht, fun s' H a cl fp => ifs_ok S (g.blk b2 s' H a cl fp) hc, fun s' H a cl fp => S.e (g.blk b2 s' H a cl fp) hk, fun i hi => by simpa using h3 i hi⟩, fun s' H a cl fp => S.e (g.blk b2 s' H a cl fp) hv⟩
theorem dc_pe (g : Good gq Γ C G D X W k sc own) {kx vx tg iter : Expr} {ifs : List Expr} {scope : Scope} {s : Src} {t : Tgt} {c : IBO} {ki vi : IE} (L : LcOk Γ C G D X W kx tg iter ifs scope s t c ki)
    (hv : ∀ (s : Shared) (H : Hp) (a : Addr) (cl : List (Str × Addr)) (fp : List Addr), PE (X.blk s H scope (compEnvC scope cl a X.env) fp) vx (tE X.K W0 (ev C G D vi))) :
    PE X (.DictComp kx vx [⟨tg, iter, ifs, 0⟩] scope pos) (tE X.K W (ev C G D (.dc s t c ki vi (ownOf Γ scope.names)))) :=
  pe_imp (pe_dc g.calm g.nd L.src L.blk L.tgt L.cond L.elt hv L.fold) fun σ H Q q => dc_imp L.tgi q
theorem lockW_ok {iter e : Expr} {ie : IE} (h : PE X e (tE X.K W (ev C G D ie))) : PE X e (tE X.K W (ev C G D (lockW Γ sc iter ie))) := by
  unfold lockW
  split
  · split
    · split
      · exact se_lockd h
      · exact h
    · exact h
  · exact h
theorem flat_ok (S : Snd gq Γ C G D r) (g : Good gq Γ C G D X W k sc own) : ∀ {ks : List (Option Expr)} {vs : List Expr} {ies : IEs}, flatKV r sc ks vs = some ies →
    ∃ ps, evs C G D ies = flatM ps ∧ PPs X pos ks vs (ps.map fun p => (tE X.K W p.1, tE X.K W p.2)) ∧ ks.all (·.isSome) = true ∧ ks.length = vs.length
  | [], [], ies, h => by cases h; exact ⟨[], by funext env; rfl, pps_nil, rfl, rfl⟩
  | some k :: ks, v :: vs, ies, h => by
    simp only [flatKV, Option.bind_eq_some_iff, Option.map_eq_some_iff] at h
    obtain ⟨a, ha, b, hb, c, hc, rfl⟩ := h
    obtain ⟨ps, e, q1, q2, q3⟩ := flat_ok S g hc
    refine ⟨(ev C G D a, ev C G D b) :: ps, ?_, pps_cons (S.e g ha) (S.e g hb) q1, by simpa using q2, by simp [q3]⟩
    funext env
    simp only [evs, flatM, e]
  | [], _ :: _, _, h => by cases h
  | none :: _, _, _, h => by simp [flatKV] at h
  | some _ :: _, [], _, h => by cases h
theorem disp_ok (S : Snd gq Γ C G D r) (g : Good gq Γ C G D X W k sc own) {ks : List (Option Expr)} {vs : List Expr} {ie : IE} (h : dispE r sc ks vs = some ie) : PE X (.Dict ks vs pos) (tE X.K W (ev C G D ie)) := by
  unfold dispE at h
  split at h
  · rename_i hk
    obtain ⟨hv, h2⟩ := gd_some.mp h
    have hv : vs = [] := by simpa using hv
    subst hk hv
    cases h2
    exact se_dnew
  · rename_i hk
    obtain ⟨hl, h2⟩ := gd_some.mp h
    obtain ⟨ies, hes, rfl⟩ := Option.map_eq_some_iff.mp h2
    obtain ⟨ps, e, q1, q2, q3⟩ := flat_ok S g hes
    have := se_disp (W := W) q1 q2 q3 hk (by simpa using hl)
    unfold mDisp at this
    rw [← e] at this
    exact this
/-! ## f-strings -/
theorem fpart_ok (S : Snd gq Γ C G D r) (g : Good gq Γ C G D X W k sc own) {e : Expr} {ie : IE} (h : fpartE r sc e = some ie) : ∃ t, PE X e t ∧ ∀ σ H Q, tE X.K W (ev C G D ie) σ H (fun v H1 => (∃ y : Str, v = .str y ∧ y.length ≤ sizeLine ∧ Q (.str y) H1) ∨ ∃ i : Int, v = .int i ∧ i.natAbs.log2 < 1920 ∧ Q (.str (toString i)) H1) → t σ H Q := by
  unfold fpartE at h
  split at h
  · rename_i e c p
    obtain ⟨h1, h2⟩ := gd_some.mp h
    have hc : c = -1 := by simpa using h1
    subst hc
    exact ⟨_, pe_fmt (S.e g h2), fun σ H Q q => q⟩
  · cases h
    rename_i s j p
    refine ⟨_, se_con (W := W) (t := .str s) pe_str fun _ => .str _, fun σ H Q ⟨env, F, fp, E, q⟩ => ⟨env, F, fp, E, fun H' F' fp' E' s' v l rr tm => ?_⟩⟩
    have q1 := q H' F' fp' E' s' v l rr tm
    cases rr with
    | val d =>
      cases d
      rcases q1 with ⟨y, e1, _, q2⟩ | ⟨i, e1, _⟩
      · cases e1; exact q2
      · cases e1
  · cases h
theorem fparts_ok (S : Snd gq Γ C G D r) (g : Good gq Γ C G D X W k sc own) : ∀ {es : List Expr} {ies : IEs}, fpartsE r sc es = some ies → ∃ ts, PJ X es ts ∧ ∀ (acc : Str) {σ : L2.St} {H F H0 F0 : Hp} {env : Env} {fp : Nat → List Addr} {P0 : Fp} {Q0 : R → Env → Hp → Hp → (Nat → List Addr) → Prop} {Q : Str → Hp → Prop},
    EnvR X.K env σ H F fp → Stp P0 H0 F0 (fpOf env fp) H F → ((noexc (evs C G D ies env)).bind fun rs e1 => ofO ((valsR rs).bind fun ts => (joinF ts acc).map fun s => R.val (.str s)) e1).asks X.K W σ H0 F0 P0 Q0 →
    (∀ s e' H' F' fp', EnvR X.K e' σ H' F' fp' → Stp P0 H0 F0 (fpOf e' fp') H' F' → Q0 (.val (.str s)) e' H' F' fp' → Q s H') → tJs ts acc σ H Q
  | [], ies, h => by
    cases h
    refine ⟨[], .nil, ?_⟩
    intro acc σ H F H0 F0 env fp P0 Q0 Q E s q k
    exact k acc _ _ _ _ E s (q _ _ _ E s)
  | e :: es, ies, h => by
    simp only [fpartsE, Option.bind_eq_some_iff, Option.map_eq_some_iff] at h
    obtain ⟨a, ha, as, has, rfl⟩ := h
    obtain ⟨t, ht, tw⟩ := fpart_ok (W := W) S g ha
    obtain ⟨ts, hts, tsw⟩ := fparts_ok S g has
    refine ⟨t :: ts, .cons ht hts, ?_⟩
    intro acc σ H F H0 F0 env fp P0 Q0 Q E s q k
    refine tw _ _ _ ⟨env, F, fp, E, ?_⟩
    simp only [evs] at q
    cases e1 : ev C G D a env with
    | stuck => rw [e1] at q; exact q.elim
    | exc z e2 => rw [e1] at q; exact q.elim
    | ok ra e2 =>
      rw [e1] at q
      intro H' F' fp' E' s' v l rr tm
      have s2 := s.trans s'
      cases e3 : evs C G D as e2 with
      | stuck => simp only [e3, Out.bind, noexc] at q; exact q.elim
      | exc z e4 => simp only [e3, Out.bind, noexc] at q; exact q.elim
      | ok rs e4 =>
        have rest : ∀ acc' : Str, ((Out.ok rs e4).bind fun rs e1 => ofO ((valsR rs).bind fun ts => (joinF ts acc').map fun s => R.val (.str s)) e1).asks X.K W σ H0 F0 P0 Q0 → tJs ts acc' σ H' Q := fun acc' q' => by
          refine tsw acc' E' s2 ?_ k
          rw [e3]; exact q'
        simp only [e3, Out.bind, noexc] at q
        cases rr with
        | new d => exact q.elim
        | loan d => exact q.elim
        | @val _ t d =>
          simp only [valsR] at q
          cases ev2 : valsR rs with
          | none => rw [ev2] at q; exact q.elim
          | some tt =>
            rw [ev2] at q
            simp only [Option.map_some, Option.bind_some] at q
            cases d with
            | int i =>
              simp only [joinF] at q
              split at q
              · rename_i hi
                refine .inr ⟨i, rfl, hi.1, _, rfl, hi.2, rest _ ?_⟩
                simp only [Out.bind, ev2, Option.bind_some]
                exact q
              · exact q.elim
            | str y =>
              simp only [joinF] at q
              split at q
              · rename_i hi
                refine .inl ⟨y, rfl, hi.1, _, rfl, hi.2, rest _ ?_⟩
                simp only [Out.bind, ev2, Option.bind_some]
                exact q
              · exact q.elim
            | _ => exact q.elim
theorem fstr_ok (S : Snd gq Γ C G D r) (g : Good gq Γ C G D X W k sc own) {es : List Expr} {ies : IEs} (hl : 2 ≤ es.length) (h : fpartsE r sc es = some ies) : PE X (.JoinedStr es pos) (tE X.K W (ev C G D (.fstr ies))) := by
  match es, hl with
  | v1 :: v2 :: rest, _ =>
    obtain ⟨ts, hts, tsw⟩ := fparts_ok (W := W) S g h
    refine pe_imp (pe_joined hts) fun σ H Q ⟨env, F, fp, E, q⟩ => ?_
    exact tsw _ E Stp.refl q fun s e' H' F' fp' E' s' q' => q' _ [] (.val (.str s)) .nil
/-! ## the whole -/
theorem stepT_ok (S : Snd gq Γ C G D r) (g : Good gq Γ C G D X W k sc own) {e : Expr} {ib : IB} (h : stepT r sc e = some ib) : PT X e (_root_.G.tB X.K W (evT C G D ib)) := by
  have val : ∀ {e : Expr} {ib : IB}, gd (plainT e) ((r.e sc false e).map IB.val) = some ib → PT X e (_root_.G.tB X.K W (evT C G D ib)) := fun {e ib} h => by
    obtain ⟨h1, h2⟩ := gd_some.mp h
    obtain ⟨ie, he, rfl⟩ := Option.map_eq_some_iff.mp h2
    exact st_val (S.e g he) h1
  cases e with
  | UnaryOp op a p =>
    cases op with
    | Not =>
      obtain ⟨ia, ha, rfl⟩ := Option.map_eq_some_iff.mp h
      exact st_not (S.t g ha)
    | _ => exact val h
  | BoolOp op es p =>
    cases op with
    | And => exact (andT_ok S g h).pt
    | Or => exact (orT_ok S g h).pt
  | Compare a ops cs p =>
    obtain ⟨ic, hc, rfl⟩ := Option.map_eq_some_iff.mp h
    exact (cmp_ok S g hc).2
  | _ => exact val h
theorem stepE_ok (S : Snd gq Γ C G D r) (g : Good gq Γ C G D X W k sc own) {mv : Bool} {e : Expr} {ie : IE} (h : stepE Γ r sc mv e = some ie) : PE X e (tE X.K W (ev C G D ie)) := by
  cases e with
  | Name x p => exact name_ok g h
  | Constant c n p => exact con_ok h
  | BinOp a op b p =>
    simp only [stepE, Option.bind_eq_some_iff, Option.map_eq_some_iff] at h
    obtain ⟨ia, ha, ib, hb, rfl⟩ := h
    exact se_bin (S.e g ha) (S.e g hb)
  | UnaryOp op a p =>
    cases op with
    | USub =>
      obtain ⟨ia, ha, rfl⟩ := Option.map_eq_some_iff.mp h
      exact se_neg (S.e g ha)
    | Not =>
      obtain ⟨ia, ha, rfl⟩ := Option.map_eq_some_iff.mp h
      exact se_not (S.e g ha)
    | _ => cases h
  | BoolOp op es p =>
    cases op with
    | And => exact andE_ok S g h
    | Or => exact orE_ok S g h
  | Compare a ops cs p => exact (cmp_ok S g h).1
  | IfExp c a b p =>
    simp only [stepE, Option.bind_eq_some_iff, Option.map_eq_some_iff] at h
    obtain ⟨ic, hc, ia, ha, ib, hb, rfl⟩ := h
    exact se_ifx (S.t g hc) (S.e g ha) (S.e g hb)
  | Tuple es n p =>
    obtain ⟨ies, hes, rfl⟩ := Option.map_eq_some_iff.mp h
    exact se_tup (trL_ok S g hes).1
  | List es p =>
    obtain ⟨ies, hes, rfl⟩ := Option.map_eq_some_iff.mp h
    exact se_lst (trL_ok S g hes).1
  | Dict ks vs p => exact disp_ok S g h
  | Call f args kws p => exact call_ok S g h
  | Subscript a i p => exact sub_ok S g h
  | JoinedStr es p =>
    obtain ⟨h1, h2⟩ := gd_some.mp h
    obtain ⟨ies, hes, rfl⟩ := Option.map_eq_some_iff.mp h2
    exact fstr_ok S g (by simpa using h1) hes
  | ListComp elt gens scope p =>
    cases gens with
    | nil => cases h
    | cons c0 cs =>
      obtain ⟨tg, iter, ifs, n⟩ := c0
      cases cs with
      | cons _ _ => cases h
      | nil =>
        obtain ⟨h1, h2⟩ := gd_some.mp h
        have hn : n = 0 := by simpa using h1
        subst hn
        obtain ⟨ie', h3, rfl⟩ := Option.map_eq_some_iff.mp h2
        obtain ⟨s, t, c, e, rfl, L⟩ := lc_ok S g h3
        exact lockW_ok (lc_pe g L)
  | DictComp kx vx gens scope p =>
    cases gens with
    | nil => cases h
    | cons c0 cs =>
      obtain ⟨tg, iter, ifs, n⟩ := c0
      cases cs with
      | cons _ _ => cases h
      | nil =>
        obtain ⟨h1, h2⟩ := gd_some.mp h
        have hn : n = 0 := by simpa using h1
        subst hn
        obtain ⟨s, t, c, ki, vi, rfl, L, hv⟩ := dc_ok S g h2
        exact dc_pe g L hv
  | _ => cases h
theorem tr_ok : ∀ n, Snd gq Γ C G D (tr Γ n)
  | 0 => by
    constructor
    · intro X W k sc own g mv e ie h; cases h
    · intro X W k sc own g e ib h; cases h
  | n + 1 => by
    constructor
    · intro X W k sc own g mv e ie h; exact stepE_ok (tr_ok n) g h
    · intro X W k sc own g e ib h; exact stepT_ok (tr_ok n) g h
end
end G
namespace G
open PySem PySem.Spec PyProof.Rows L2

/-! # statements from the text -/
def notComp : Expr → Bool
  | .ListComp _ _ _ _ => false
  | .SetComp _ _ _ _ => false
  | .DictComp _ _ _ _ _ => false
  | _ => true
theorem swaps_no {e : Expr} {t : Option Expr} {l : Nat} {env : PySem.Env} (h : notComp e = true) : swapsWith e t l env = pure false := by
  cases e <;> first | rfl | (simp [notComp] at h)
theorem swaps_sole {e t : Expr} {l : Nat} {env : PySem.Env} (h : notComp e = true) : swapsWithSole [t] e l env = pure false := swaps_no h
theorem swaps_sub {e o i : Expr} {p : Pos} {l : Nat} {env : PySem.Env} : swapsWith e (some (.Subscript o i p)) l env = pure false := by
  cases e <;> rfl
theorem swaps_subS {e o i : Expr} {p : Pos} {l : Nat} {env : PySem.Env} : swapsWithSole [.Subscript o i p] e l env = pure false := by cases e <;> rfl
def lcSw (sc scope : Scope) (y : Str) (py pos : Pos) : Bool := sc.names.lookup y == some .local && (py.line == pos.line) && !(scope.names.any fun p => p.1 == y && (p.2 == .local || p.2 == .cell))
def lcNs (sc : Scope) (y : Str) : Bool := !(sc.names.lookup y == some .local)
theorem lc_noswap {elt : Expr} {gs : List Comprehension} {scope : Scope} {pos py : Pos} {y : Str} {l : Nat} {env : PySem.Env} (h : lcNs env.scope y = true) : swapsWith (.ListComp elt gs scope pos) (some (.Name y py)) l env = pure false := by
  unfold lcNs at h
  have e : (env.kindOf y == some NameKind.local) = false := by simpa [Env.kindOf] using h
  show (pure _ : Sem Bool) = _
  rw [e, Bool.and_false]
  rfl
def mutOf (m : Str) : Option Mu := if m = ("append" : Str) then some .append else if m = ("extend" : Str) then some .extend else if m = ("insert" : Str) then some .insert else none
def swC (sc : Scope) (x y : Str) (px py : Pos) (a b : Expr) : Bool :=
  noStarE a && noStarE b && sc.names.lookup x == some .local && sc.names.lookup y == some .local && (py.line == px.line) && !(x == y) && !(foldedForSure 8 a && foldedForSure 8 b) && !(constantsAlone 8 a && constantsAlone 8 b)
def parE (Γ : Gam) (r : Tr) (sc : Scope) (es vs : List Expr) : Option IS :=
  match es with
  | [.Name x px, .Name y py] => match vs with
    | [a, b] => (locOf Γ sc x).bind fun i => (locOf Γ sc y).bind fun j => gd (swC sc x y px py a b && !(i == j)) ((r.e sc false a).bind fun ia => (r.e sc false b).map (IS.par i j ia))
    | _ => none
  | _ => none
def asgE (Γ : Gam) (r : Tr) (sc : Scope) (tg value : Expr) (pos : Pos) : Option IS :=
  match tg with
  | .Name x py => (locOf Γ sc x).bind fun i => match value with
    | .ListComp elt gens scope lp => match gens with
      | [⟨t, iter, ifs, n⟩] => gd (n == 0 && (lcSw sc scope x py lp || lcNs sc x)) ((lcE Γ r sc elt t iter ifs scope).map (IS.asg i))
      | _ => none
    | .DictComp kx vx gens scope lp => match gens with
      | [⟨t, iter, ifs, n⟩] => gd (n == 0 && lcSw sc scope x py lp) ((dcE Γ r sc kx vx t iter ifs scope).map (IS.asg i))
      | _ => none
    | e => gd (notComp e) ((r.e sc false e).map (IS.asg i))
  | .Tuple es _ _ => match value with
    | .Tuple vs _ _ => parE Γ r sc es vs
    | e => (tgtNs Γ sc es).bind fun is => gd (notComp e) ((r.e sc false e).map (IS.asgT is))
  | .Subscript o ix _ => match o with
    | .Name x _ => (slotOf Γ sc x).bind fun c => gd (!isSl ix) ((r.e sc true value).bind fun v => (r.e sc false ix).map fun i => IS.setix c i v)
    | _ => none
  | _ => none
def exprE (Γ : Gam) (r : Tr) (sc : Scope) (e : Expr) : Option IS :=
  match e with
  | .Constant (.str _) _ _ => some .pass
  | .Call (.Attribute (.Name x _) m apos) args [] p => match slotOf Γ sc x with
    | some c => gd (noStar args && decide (args.length < 30) && (apos.endLine == p.line)) (match args with
        | [] => gd (m == ("pop" : Str)) (some (.mut .pop c .nil))
        | [a] => if m = ("append" : Str) then (trL r sc true [a]).map (IS.mut .append c)
          else gd (m == ("extend" : Str)) ((trL r sc false [a]).map (IS.mut .extend c))
        | [a, b] => gd (m == ("insert" : Str)) ((trL r sc true [a, b]).map (IS.mut .insert c))
        | _ => none)
    | none => none
  | e => gd (notComp e) ((r.e sc false e).map IS.expr)
def retE (Γ : Gam) (r : Tr) (sc : Scope) (e : Expr) : Option IS :=
  match e with
  | .Name x _ => (match slotOf Γ sc x with
    | some i => some (.ret (if i < Γ.np then .mov i else .var i))
    | none => (r.e sc false e).map IS.ret)
  | e => (r.e sc false e).map IS.ret
def raiseE (sc : Scope) (e f : Option Expr) : Option IS :=
  match e, f with
  | some (.Call (.Name x _) [.Constant (.str m) _ _] [] _), none => gd (isGl sc x && (x == ("ZeroDivisionError" : Str))) (some (.raise "ZeroDivisionError" m))
  | _, _ => none
/-- the expressions of an except suite -/
def sufE (Γ : Gam) (sc : Scope) : Nat → Expr → Option IE
  | 0, _ => none
  | n + 1, e => match e with
    | .Name x _ => nameE Γ sc false x
    | .Constant c _ _ => conE c
    | .Compare a ops cs _ => match ops, cs with
      | [op], [b] => gd (!behindInMarks op b) ((sufE Γ sc n a).bind fun ia => (sufE Γ sc n b).map (IE.cmp op ia))
      | _, _ => none
    | .Subscript a i _ => gd (!isSl i) ((sufE Γ sc n a).bind fun ia => (sufE Γ sc n i).map (IE.ix ia))
    | _ => none
def sufS (Γ : Gam) (sc : Scope) : List Stmt → Option ISs
  | [.Return (some e) _] => (sufE Γ sc 20 e).map fun i => .cons (.ret i) .nil
  | _ => none
mutual
def trS (Γ : Gam) (r : Tr) (sc : Scope) : Nat → Stmt → Option IS
  | 0, _ => none
  | n + 1, st => match st with
    | .Assign tgs value pos => (match tgs with
      | [tg] => asgE Γ r sc tg value pos
      | _ => none)
    | .Expr e _ => exprE Γ r sc e
    | .Return e _ => (match e with
      | none => some .retN
      | some e => retE Γ r sc e)
    | .Pass _ => some .pass
    | .Break _ => some .brk
    | .Continue _ => some .cont
    | .If c a b _ => (r.t sc c).bind fun ic => (trSs Γ r sc n a).bind fun ia => (trSs Γ r sc n b).map (IS.ite ic ia)
    | .For tg iter body orelse _ => (match orelse with
      | [] => (tgtE Γ sc tg).bind fun t => (srcE r sc tg iter).bind fun s => (trSs Γ r sc n body).map (IS.for t s)
      | _ => none)
    | .While c body orelse _ => (match orelse with
      | [] => (r.t sc c).bind fun ic => (trSs Γ r sc n body).map (IS.while ic)
      | _ => none)
    | .Raise e f _ => raiseE sc e f
    | .Try body hs a b _ => (match hs, a, b with
      | [.ExceptHandler (some (.Name x _)) none suite _], [], [] => gd (isGl sc x && (x == ("ZeroDivisionError" : Str))) ((trSs Γ r sc n body).bind fun ib => (sufS Γ sc suite).map fun is => IS.try ib "ZeroDivisionError" is)
      | _, _, _ => none)
    | _ => none
def trSs (Γ : Gam) (r : Tr) (sc : Scope) : Nat → List Stmt → Option ISs
  | 0, _ => none
  | _ + 1, [] => some .nil
  | n + 1, s :: ss => (trS Γ r sc n s).bind fun i => (trSs Γ r sc n ss).map (ISs.cons i)
end

section
variable {gq : Bool} {Γ : Gam} {C : Nat → List Iv → Res} {G : Nat → T} {D : Nat → Nat → List T}
variable {X : Cx} {W : WX} {k : Nat} {sc : Scope} {r : Tr} {pos : Pos} {fx : Nat → Bool} {L : Nat}
theorem sw_some {sc : Scope} {x y : Str} {px py pt pt2 : Pos} {kt k2 : Nat} {a b : Expr} {env : PySem.Env} (he : env.scope = sc) (hk : sc.kind = .function) (h : swC sc x y px py a b = true) :
    swappedStores [.Tuple [.Name x px, .Name y py] kt pt] (.Tuple [a, b] k2 pt2) env = pure (some [x, y]) := by
  unfold swC at h
  simp only [Bool.and_eq_true, Bool.not_eq_true'] at h
  obtain ⟨⟨⟨⟨⟨⟨⟨h1, h2⟩, h3⟩, h4⟩, h5⟩, h6⟩, h7⟩, h8⟩ := h
  have hb : env.blockKind = .function := by unfold Env.blockKind; rw [he, hk]; rfl
  have q1 : (env.kindOf x == some NameKind.local) = true := by show (env.scope.names.lookup x == _) = true; rw [he]; exact h3
  have q2 : (env.kindOf y == some NameKind.local) = true := by show (env.scope.names.lookup y == _) = true; rw [he]; exact h4
  have dd : ([x, y].eraseDups.length != ([x, y] : List Str).length) = false := by
    have : (y == x) = false := by rw [Bool.eq_false_iff] at h6 ⊢; intro z; apply h6; have : y = x := by simpa using z
                                  subst this; simp
    simp [List.eraseDups_cons, this]
  unfold swappedStores
  simp only [List.any_cons, List.any_nil, Bool.or_false, List.filterMap_cons, List.filterMap_nil, q1, q2, List.head?_cons, Option.map_some, Option.getD_some, Expr.pos, h5, Bool.and_true, beq_self_eq_true, if_true]
  refine (if_neg (by rw [hb]; simp)).trans ((if_neg fun hst => ?_).trans ((if_neg (by rw [dd]; simp)).trans ((if_neg (by simpa using h7)).trans (if_neg (by simpa using h8)))))
  rcases Bool.or_eq_true_iff.mp hst with z | z
  · clear hst dd h7 h8
    cases a <;> first | (simp [noStarE] at h1; done) | (simp at z; done)
  · clear hst dd h7 h8
    cases b <;> first | (simp [noStarE] at h2; done) | (simp at z; done)
theorem par_ok {gq : Bool} {Γ : Gam} {C : Nat → List Iv → Res} {G : Nat → T} {D : Nat → Nat → List T} {X : Cx} {W : WX} {k : Nat} {sc : Scope} {r : Tr} {pos : Pos} {fx : Nat → Bool} {L : Nat} (S : Snd gq Γ C G D r) (g : Good gq Γ C G D X W k sc sc) {es vs : List Expr} {k1 k2 : Nat} {p1 p2 : Pos} {is : IS} (h : parE Γ r sc es vs = some is) :
    PS X (.Assign [.Tuple es k1 p1] (.Tuple vs k2 p2) pos) (tS X.K W fx (xc C G D fx L is)) := by
  unfold parE at h
  split at h
  · split at h
    · rename_i x px y py _ a b
      obtain ⟨i, hi, h⟩ := Option.bind_eq_some_iff.mp h
      obtain ⟨j, hj, h⟩ := Option.bind_eq_some_iff.mp h
      obtain ⟨h1, h2⟩ := gd_some.mp h
      rw [Bool.and_eq_true] at h1
      simp only [Option.bind_eq_some_iff, Option.map_eq_some_iff] at h2
      obtain ⟨ia, ha, ib, hb, rfl⟩ := h2
      have hw := sw_some (pt := p1) (pt2 := p2) (kt := k1) (k2 := k2) g.scope g.kind h1.1
      have hsw := h1.1
      unfold swC at hsw
      simp only [Bool.and_eq_true] at hsw
      obtain ⟨⟨⟨⟨⟨⟨⟨s1, s2⟩, s3⟩, s4⟩, s5⟩, s6⟩, s7⟩, s8⟩ := hsw
      exact ss_par g.calm g.nd (loc_ok g hi).1 (loc_ok g hj).1 (by simpa using h1.2) (by rw [g.scope]; simpa using s3) (by rw [g.scope]; simpa using s4) (S.e g ha) (S.e g hb) s1 s2 hw
    · cases h
  · cases h
theorem asg_ok (S : Snd gq Γ C G D r) (g : Good gq Γ C G D X W k sc sc) {tg value : Expr} {is : IS} (h : asgE Γ r sc tg value pos = some is) : PS X (.Assign [tg] value pos) (tS X.K W fx (xc C G D fx L is)) := by
  unfold asgE at h
  split at h
  · rename_i x py
    obtain ⟨i, hi, h2⟩ := Option.bind_eq_some_iff.mp h
    obtain ⟨l1, l2, l3, l4⟩ := loc_ok g hi
    have plain : ∀ {e : Expr} {is : IS}, gd (notComp e) ((r.e sc false e).map (IS.asg i)) = some is → PS X (.Assign [.Name x py] e pos) (tS X.K W fx (xc C G D fx L is)) := fun {e is} q => by
      obtain ⟨q1, q2⟩ := gd_some.mp q
      obtain ⟨ie, he, rfl⟩ := Option.map_eq_some_iff.mp q2
      exact ss_asg g.nd l1 l2 l3 (S.e g he) (swaps_no q1)
    cases value with
    | ListComp elt gens scope lp =>
      cases gens with
      | nil => cases h2
      | cons c0 cs =>
        obtain ⟨t, iter, ifs, n⟩ := c0
        cases cs with
        | cons _ _ => cases h2
        | nil =>
          obtain ⟨q1, q2⟩ := gd_some.mp h2
          rw [Bool.and_eq_true] at q1
          have hn : n = 0 := by simpa using q1.1
          subst hn
          obtain ⟨ie, he, rfl⟩ := Option.map_eq_some_iff.mp q2
          obtain ⟨s, t', c, e, rfl, Lc⟩ := lc_ok S g he
          rcases Bool.or_eq_true_iff.mp q1.2 with q3 | q3
          · unfold lcSw at q3
            simp only [Bool.and_eq_true] at q3
            have hl : X.env.scope.names.lookup x = some .local := by rw [g.scope]; simpa using q3.1.1
            refine ss_asgLc (ps_setLc g.calm g.nd l1 hl (sw_true (by rw [g.scope]; exact g.kind) hl q3.1.2 (by simpa using q3.2)) Lc.src Lc.blk Lc.tgt Lc.cond Lc.elt Lc.fold) fun σ H Q q => lc_imp Lc.tgi q
          · exact ss_asg g.nd l1 l2 l3 (lc_pe g Lc) (lc_noswap (by rw [g.scope]; exact q3))
    | DictComp kx vx gens scope lp =>
      cases gens with
      | nil => cases h2
      | cons c0 cs =>
        obtain ⟨t, iter, ifs, n⟩ := c0
        cases cs with
        | cons _ _ => cases h2
        | nil =>
          obtain ⟨q1, q2⟩ := gd_some.mp h2
          rw [Bool.and_eq_true] at q1
          have hn : n = 0 := by simpa using q1.1
          subst hn
          obtain ⟨ie, he, rfl⟩ := Option.map_eq_some_iff.mp q2
          obtain ⟨s, t', c, ki, vi, rfl, Lc, hv⟩ := dc_ok S g he
          have q3 := q1.2
          unfold lcSw at q3
          simp only [Bool.and_eq_true] at q3
          have hl : X.env.scope.names.lookup x = some .local := by rw [g.scope]; simpa using q3.1.1
          refine ss_asgLc (ps_setDc g.calm g.nd l1 hl (swD (by rw [g.scope]; exact g.kind) hl q3.1.2 (by simpa using q3.2)) Lc.src Lc.blk Lc.tgt Lc.cond Lc.elt hv Lc.fold) fun σ H Q q => dc_imp Lc.tgi q
    | _ => exact plain h2
  · rename_i es k1 p1
    cases value with
    | Tuple vs k2 p2 =>
      exact par_ok S g h
    | _ =>
      obtain ⟨is', his, h2⟩ := Option.bind_eq_some_iff.mp h
      obtain ⟨q1, q2⟩ := gd_some.mp h2
      obtain ⟨ie, he, rfl⟩ := Option.map_eq_some_iff.mp q2
      obtain ⟨t1, t2, t3⟩ := tgtNs_ok g his
      exact ss_asgT (pg_tup g.calm t1 t2 t3) (S.e g he) (swaps_sole q1) rfl rfl
  · split at h
    · rename_i ix p1 _ x p2
      obtain ⟨c, hc, h2⟩ := Option.bind_eq_some_iff.mp h
      obtain ⟨q1, q2⟩ := gd_some.mp h2
      simp only [Option.bind_eq_some_iff, Option.map_eq_some_iff] at q2
      obtain ⟨v, hv, i, hi, rfl⟩ := q2
      unfold slotOf at hc
      obtain ⟨w1, w2⟩ := gd_some.mp hc
      rw [Bool.and_eq_true] at w1
      obtain ⟨p1', p2'⟩ := plainN_1 w1.2
      have hix : isSl ix = false := by simpa using q1
      refine ss_setix g.hu1 (by rw [g.N]; exact ixOf_get w2) (by rw [g.scope]; exact vis_of w1.1) p1' p2' (S.e g hi) (S.e g hv) (fun v => ?_) (swaps_subS (e := value)) (by cases value <;> rfl)
      cases ix <;> first | rfl | (simp [isSl] at hix)
    · cases h
  · cases h
theorem expr_ok (S : Snd gq Γ C G D r) (g : Good gq Γ C G D X W k sc sc) {e : Expr} {is : IS} (h : exprE Γ r sc e = some is) : PS X (.Expr e pos) (tS X.K W fx (xc C G D fx L is)) := by
  unfold exprE at h
  split at h
  · cases h; exact ss_doc
  · rename_i x xp m apos args p
    split at h
    · rename_i c hc
      unfold slotOf at hc
      obtain ⟨w1, w2⟩ := gd_some.mp hc
      rw [Bool.and_eq_true] at w1
      obtain ⟨p1', p2'⟩ := plainN_1 w1.2
      have hN : X.N[c]? = some x := by rw [g.N]; exact ixOf_get w2
      have hV : Vis X.env.scope x := by rw [g.scope]; exact vis_of w1.1
      obtain ⟨q1, q2⟩ := gd_some.mp h
      simp only [Bool.and_eq_true] at q1
      obtain ⟨⟨hs, hn⟩, hl⟩ := q1
      clear h
      revert q2 hs
      intro q2 hs
      match args, q2, hs with
      | [], q3, hs =>
        obtain ⟨q4, q5⟩ := gd_some.mp q3
        have hm : m = "pop" := by simpa using q4
        subst hm
        cases q5
        exact ss_pop hN hV p1' p2' hl
      | [a], q3, hs =>
        have q6 : (if m = ("append" : Str) then (trL r sc true [a]).map (IS.mut .append c)
          else gd (m == ("extend" : Str)) ((trL r sc false [a]).map (IS.mut .extend c))) = some is := q3
        by_cases em : m = ("append" : Str)
        · rw [if_pos em] at q6
          subst em
          obtain ⟨ies, hes, rfl⟩ := Option.map_eq_some_iff.mp q6
          exact ss_append hN hV p1' p2' (trL_ok S g hes).1 hs hl
        · rw [if_neg em] at q6
          obtain ⟨q4, q5⟩ := gd_some.mp q6
          have hm : m = "extend" := by simpa using q4
          subst hm
          obtain ⟨ies, hes, rfl⟩ := Option.map_eq_some_iff.mp q5
          exact ss_extend hN hV p1' p2' (trL_ok S g hes).1 hs hl
      | [a, b], q3, hs =>
        obtain ⟨q4, q5⟩ := gd_some.mp q3
        have hm : m = "insert" := by simpa using q4
        subst hm
        obtain ⟨ies, hes, rfl⟩ := Option.map_eq_some_iff.mp q5
        exact ss_insert hN hV p1' p2' (trL_ok S g hes).1 hs hl
      | _ :: _ :: _ :: _, q3, hs => cases q3
    · cases h
  · obtain ⟨q1, q2⟩ := gd_some.mp h
    obtain ⟨ie, he, rfl⟩ := Option.map_eq_some_iff.mp q2
    exact ss_expr (S.e g he) (swaps_no q1)
theorem ret_ok (S : Snd gq Γ C G D r) (g : Good gq Γ C G D X W k sc sc) {e : Expr} {is : IS} (h : retE Γ r sc e = some is) : PS X (.Return (some e) pos) (tS X.K W fx (xc C G D fx L is)) := by
  have plain : ∀ {is : IS}, (r.e sc false e).map IS.ret = some is → PS X (.Return (some e) pos) (tS X.K W fx (xc C G D fx L is)) := fun {is} q => by
    obtain ⟨ie, he, rfl⟩ := Option.map_eq_some_iff.mp q
    exact ss_ret (S.e g he)
  unfold retE at h
  split at h
  · split at h
    · rename_i i hi
      cases h
      refine ss_ret ?_
      by_cases hlt : i < Γ.np
      · rw [if_pos hlt]; exact se_mov (slot_ok g hi)
      · rw [if_neg hlt]; exact se_var (slot_ok g hi)
    · exact plain h
  · exact plain h
theorem raise_ok (g : Good gq Γ C G D X W k sc sc) {e f : Option Expr} {is : IS} (h : raiseE sc e f = some is) : PS X (.Raise e f pos) (tS X.K W fx (xc C G D fx L is)) := by
  unfold raiseE at h
  split at h
  · rename_i x p1 m j p2 p3
    obtain ⟨h1, h2⟩ := gd_some.mp h
    cases h2
    rw [Bool.and_eq_true] at h1
    have hx : x = "ZeroDivisionError" := by simpa using h1.2
    subst hx
    have hm : X.mg "ZeroDivisionError" = none := g.blt _ (by unfold bNames; simp)
    refine ps_imp (ps_raiseB g.calm g.takes exb_ZeroDivisionError (g.gl_ h1.1) hm (by decide +kernel) (by decide +kernel) (by decide +kernel)) fun D σ H ⟨env, F, fp, E, q⟩ => ?_
    exact q _ none σ H F fp E Stp.refl Fix.refl ⟨rfl, rfl⟩
  · cases h
/-- what is known of a place in an except suite -/
structure Cool (Γ : Gam) (G : Nat → T) (X : Cx) (sc : Scope) : Prop where
  scope : X.env.scope = sc
  N : X.N = Γ.N
  hu : X.A.units + 65 < cLine
  gl : ∀ x j, Γ.gs.lookup x = some j → ∃ v u, X.mg x = some u ∧ RelV v u ∧ ∀ F, Den X.K F v (G j)
theorem sufE_ok (g : Cool Γ G X sc) : ∀ (n : Nat) {e : Expr} {ie : IE}, sufE Γ sc n e = some ie → PE X e (tE X.K W (ev C G D ie))
  | 0, e, ie, h => by cases h
  | n + 1, e, ie, h => by
    unfold sufE at h
    split at h
    · rename_i x p
      unfold nameE at h
      split at h
      · rename_i i hs
        cases h
        unfold slotOf at hs
        obtain ⟨h1, h2⟩ := gd_some.mp hs
        rw [Bool.and_eq_true] at h1
        obtain ⟨p1, p2⟩ := plainN_1 h1.2
        exact se_var (pe_var (by rw [g.N]; exact ixOf_get h2) (by rw [g.scope]; exact vis_of h1.1) p1 p2)
      · obtain ⟨h1, h2⟩ := gd_some.mp h
        rw [Bool.and_eq_true] at h1
        obtain ⟨j, hj, rfl⟩ := Option.map_eq_some_iff.mp h2
        obtain ⟨v, u, hm, hr, hd⟩ := g.gl x j hj
        have hgl : Gl X x := by
          show X.env.scope.names.lookup x = _
          rw [g.scope]
          simpa [isGl] using h1.1
        exact se_con (pe_glob hgl hm hr (plainN_1 h1.2).1) hd
    · exact con_ok h
    · split at h
      · rename_i a op b _
        obtain ⟨h1, h2⟩ := gd_some.mp h
        simp only [Option.bind_eq_some_iff, Option.map_eq_some_iff] at h2
        obtain ⟨ia, ha, ib, hb, rfl⟩ := h2
        exact se_cmp g.hu (sufE_ok g n ha) (sufE_ok g n hb) (by simpa using h1)
      · cases h
    · obtain ⟨h1, h2⟩ := gd_some.mp h
      simp only [Option.bind_eq_some_iff, Option.map_eq_some_iff] at h2
      obtain ⟨ia, ha, ib, hb, rfl⟩ := h2
      have := g.hu
      exact se_ix (by omega) (sufE_ok g n ha) (sufE_ok g n hb) (plainIx (by simpa using h1))
    · cases h
theorem sufS_ok (g : Cool Γ G X sc) {ss : List Stmt} {iss : ISs} (h : sufS Γ sc ss = some iss) : ∃ b0 rest, ss = b0 :: rest ∧ PSs X ss (tS X.K W fx (xcs C G D fx L iss)) := by
  unfold sufS at h
  split at h
  · obtain ⟨i, hi, rfl⟩ := Option.map_eq_some_iff.mp h
    exact ⟨_, _, rfl, ss_cons (ss_ret (sufE_ok g 20 hi)) ss_nil⟩
  · cases h
theorem exm_ZD {K : PySem.W.Frag} : PySem.W.exmOne K (.type "ZeroDivisionError") (.type "ZeroDivisionError") = some true := by kernel_rfl
/-- the frame of a def's own statements -/
def Own (X : Cx) : Prop := X.stack = X.env :: X.outer ∧ X.env.frame = some X.env.locals
theorem Good.tr {own : Scope} (g : Good gq Γ C G D X W k sc own) {pn : List (Addr × Obj)} {xe : Value → Shared → Prop} {W' : WX} (tk : Takes (X.tr pn xe) W') : Good gq Γ C G D (X.tr pn xe) W' k sc own where
  scope := g.scope
  kind := g.kind
  N := g.N
  nd := g.nd
  calm := g.calm
  room := g.room
  gd := g.gd
  rq := g.rq
  takes := tk
  loc := g.loc
  fn := g.fn
  gl := g.gl
  blt := g.blt
  gcd := g.gcd
  lf := g.lf
mutual
theorem trS_ok (S : Snd gq Γ C G D r) : ∀ (n : Nat) {X : Cx} {W : WX} (g : Good gq Γ C G D X W k sc sc) (hp : PassesOwn (model X.prog X.w) X.A X.env X.xe) (ho : Own X) {st : Stmt} {is : IS}, trS Γ r sc n st = some is → PS X st (tS X.K W fx (xc C G D fx L is))
  | 0, X, W, g, hp, ho, st, is, h => by simp [trS] at h
  | n + 1, X, W, g, hp, ho, st, is, h => by
    unfold trS at h
    cases st with
    | Assign tgs value p =>
      cases tgs with
      | nil => cases h
      | cons tg tgs =>
        cases tgs with
        | nil => exact asg_ok S g h
        | cons _ _ => cases h
    | Expr e p => exact expr_ok S g h
    | Return e p =>
      cases e with
      | none => cases h; exact ss_retN
      | some e => exact ret_ok S g h
    | Pass p => cases h; exact ss_pass
    | Break p => cases h; exact ss_brk
    | Continue p => cases h; exact ss_cont
    | If c a b p =>
      simp only [Option.bind_eq_some_iff, Option.map_eq_some_iff] at h
      obtain ⟨ic, hc, ia, ha, ib, hb, rfl⟩ := h
      exact ss_if (S.t g hc) (trSs_ok S n g hp ho ha) (trSs_ok S n g hp ho hb)
    | For tg iter body orelse p =>
      cases orelse with
      | cons _ _ => cases h
      | nil =>
        simp only [Option.bind_eq_some_iff, Option.map_eq_some_iff] at h
        obtain ⟨t, ht, s, hs, ib, hb, rfl⟩ := h
        obtain ⟨s1, s2⟩ := src_sound S g hs
        exact ss_for hp g.calm s1 (tgt_sound g ht) (trSs_ok S n g hp ho hb) s2
    | While c body orelse p =>
      cases orelse with
      | cons _ _ => cases h
      | nil =>
        simp only [Option.bind_eq_some_iff, Option.map_eq_some_iff] at h
        obtain ⟨ic, hc, ib, hb, rfl⟩ := h
        exact ss_while hp (S.t g hc) (trSs_ok S n g hp ho hb)
    | Raise e f p => exact raise_ok g h
    | Try body hs a b p =>
      simp only at h
      split at h
      · rename_i x np suite p'
        obtain ⟨h1, h2⟩ := gd_some.mp h
        rw [Bool.and_eq_true] at h1
        have hx : x = "ZeroDivisionError" := by simpa using h1.2
        subst hx
        simp only [Option.bind_eq_some_iff, Option.map_eq_some_iff] at h2
        obtain ⟨ib, hb, is', his, rfl⟩ := h2
        have hm : X.mg "ZeroDivisionError" = none := g.blt _ (by unfold bNames; simp)
        have cool : ∀ (a : Addr) (pn : List (Addr × Obj)), Cool Γ G (X.suite a pn) sc := fun a pn => ⟨g.scope, g.N, g.hu, g.gl⟩
        obtain ⟨b0, rest, rfl, _⟩ := sufS_ok (C := C) (D := D) (W := W0) (fx := fx) (L := L) (cool 0 []) his
        refine ss_try ho.1 ho.2 (names_blt (g.gl_ h1.1) hm boot_ZeroDivisionError) exm_ZD g.takes (fun W' pn xe tk hp' => trSs_ok S n (g.tr tk) hp' ho hb) fun a pn => ?_
        obtain ⟨_, _, _, q⟩ := sufS_ok (C := C) (D := D) (W := W0) (fx := fx) (L := L) (cool a pn) his
        exact q
      · cases h
    | _ => cases h
theorem trSs_ok (S : Snd gq Γ C G D r) : ∀ (n : Nat) {X : Cx} {W : WX} (g : Good gq Γ C G D X W k sc sc) (hp : PassesOwn (model X.prog X.w) X.A X.env X.xe) (ho : Own X) {sts : List Stmt} {is : ISs}, trSs Γ r sc n sts = some is → PSs X sts (tS X.K W fx (xcs C G D fx L is))
  | 0, X, W, g, hp, ho, sts, is, h => by simp [trSs] at h
  | n + 1, X, W, g, hp, ho, [], is, h => by
    simp only [trSs] at h
    cases h
    exact ss_nil
  | n + 1, X, W, g, hp, ho, s :: ss, is, h => by
    simp only [trSs, Option.bind_eq_some_iff, Option.map_eq_some_iff] at h
    obtain ⟨i, hi, is', his, rfl⟩ := h
    exact ss_cons (trS_ok S n g hp ho hi) (trSs_ok S n g hp ho his)
end
end
end G
namespace G
open PySem PySem.Spec PyProof.Rows L2

/-! # defs -/
structure FnI where
  np : Nat
  ns : Nat
  body : ISs
def fxOf (ivs : List Iv) (i : Nat) : Bool := match ivs[i]? with
  | some (.own _) => true
  | some (.lck _) => true
  | _ => false
def outsOf : List Iv → Env → Option (List Iv)
  | [], _ => some []
  | .val t :: ivs, _ :: env => (outsOf ivs env).map (Iv.val t :: ·)
  | .own _ :: ivs, some iv :: env => (outsOf ivs env).map (iv :: ·)
  | .lck _ :: ivs, some iv :: env => (outsOf ivs env).map (iv :: ·)
  | _ :: _, _ => none
def resOf (ivs : List Iv) : Out Sg → Res
  | .ok .nxt e => match outsOf ivs e with | some o => .ok (.val .non) o | none => .stuck
  | .ok (.ret iv) e => match outsOf ivs e with | some o => .ok iv o | none => .stuck
  | .exc x e => match outsOf ivs e with | some o => .exc x o | none => .stuck
  | _ => .stuck
section
variable (Pr : Nat → Option FnI) (G : Nat → T) (D : Nat → Nat → List T) (L : Nat)
def callF : Nat → Nat → List Iv → Res
  | 0, _, _ => .stuck
  | k + 1, i, ivs => match Pr i with
    | none => .stuck
    | some f => if ivs.length = f.np then resOf ivs (xcs (callF k) G D (fxOf ivs) L f.body (ivs.map some ++ List.replicate (f.ns - f.np) none)) else .stuck
end
theorem outs_get : ∀ {ivs : List Iv} {env : Env} {outs : List Iv}, outsOf ivs env = some outs → outs.length = ivs.length ∧ ∀ j z, outs[j]? = some z → (∃ t, ivs[j]? = some (.val t) ∧ z = .val t) ∨ (fxOf ivs j = true ∧ env[j]? = some (some z))
  | [], env, outs, h => by simp [outsOf] at h; subst h; exact ⟨rfl, fun j z e => by simp at e⟩
  | iv :: ivs, [], outs, h => by cases iv <;> simp [outsOf] at h
  | iv :: ivs, x :: env, outs, h => by
    have key : ∀ {z0 : Iv} {o : List Iv}, outsOf ivs env = some o → outs = z0 :: o → ((∃ t, iv = .val t ∧ z0 = .val t) ∨ ((∀ t, iv ≠ .val t) ∧ x = some z0)) → outs.length = (iv :: ivs).length ∧ ∀ j z, outs[j]? = some z → (∃ t, (iv :: ivs)[j]? = some (.val t) ∧ z = .val t) ∨ (fxOf (iv :: ivs) j = true ∧ (x :: env)[j]? = some (some z)) := by
      rintro z0 o ho rfl hz
      obtain ⟨h1, h2⟩ := outs_get ho
      refine ⟨by simp [h1], fun j z e => ?_⟩
      cases j with
      | zero =>
        simp at e
        subst e
        rcases hz with ⟨t, rfl, rfl⟩ | ⟨hn, rfl⟩
        · exact .inl ⟨t, rfl, rfl⟩
        · refine .inr ⟨?_, rfl⟩
          cases iv with
          | val t => exact absurd rfl (hn t)
          | own _ => rfl
          | lck _ => rfl
      | succ j =>
        rcases h2 j z (by simpa using e) with ⟨t, h3, h4⟩ | ⟨h3, h4⟩
        · exact .inl ⟨t, by simpa using h3, h4⟩
        · exact .inr ⟨by simpa [fxOf] using h3, by simpa using h4⟩
    cases iv with
    | val t =>
      simp only [outsOf, Option.map_eq_some_iff] at h
      obtain ⟨o, ho, rfl⟩ := h
      exact key ho rfl (.inl ⟨t, rfl, rfl⟩)
    | own q =>
      cases x with
      | none => simp [outsOf] at h
      | some x =>
        simp only [outsOf, Option.map_eq_some_iff] at h
        obtain ⟨o, ho, rfl⟩ := h
        exact key ho rfl (.inr ⟨fun t => by simp, rfl⟩)
    | lck q =>
      cases x with
      | none => simp [outsOf] at h
      | some x =>
        simp only [outsOf, Option.map_eq_some_iff] at h
        obtain ⟨o, ho, rfl⟩ := h
        exact key ho rfl (.inr ⟨fun t => by simp, rfl⟩)
section
variable {K : PySem.W.Frag} {H F H' F' : Hp} {fp fp' : Nat → List Addr}
theorem app_get {ivs : List Iv} {n i : Nat} {iv : Iv} (h : (ivs.map some ++ List.replicate n none)[i]? = some (some iv)) : (ivs.map some)[i]? = some (some iv) := by
  by_cases hi : i < (ivs.map some).length
  · rwa [List.getElem?_append_left hi] at h
  · rw [List.getElem?_append_right (by omega), List.getElem?_replicate] at h
    split at h <;> cases h
/-- a def's first world -/
theorem enter {ivs : List Iv} {vs : List V} {N : List Str} {n : Nat} (E : EnvR K (ivs.map some) (vs.map some) H F fp) (hn : N.length - vs.length = n) : EnvR K (ivs.map some ++ List.replicate n none) (L2.start N vs) H F fp := by
  have hl : ivs.length = vs.length := by simpa using E.len
  refine ⟨fun i iv e => ?_, fun i hi => ?_, E.dis, E.free, E.sub, ?_⟩
  · have e1 := app_get e
    obtain ⟨v, g1, g2⟩ := E.slot i iv e1
    refine ⟨v, ?_, g2⟩
    unfold L2.start
    rw [List.getElem?_append_left (by have := (List.getElem?_eq_some_iff.mp g1).1; exact this)]
    exact g1
  · refine E.out i fun iv e => hi iv ?_
    rw [List.getElem?_append_left (by have := (List.getElem?_eq_some_iff.mp e).1; exact this)]
    exact e
  · unfold L2.start
    simp [hl, hn]
theorem enter_own {ivs : List Iv} {n : Nat} : (∀ a, (fpOf (ivs.map some ++ List.replicate n none) fp).own a ↔ (fpOf (ivs.map some) fp).own a) ∧ ∀ i a, (fpOf (ivs.map some ++ List.replicate n none) fp).lk i a ↔ (fpOf (ivs.map some) fp).lk i a := by
  have up : ∀ {i : Nat} {x : Iv}, (ivs.map some)[i]? = some (some x) → (ivs.map some ++ List.replicate n none)[i]? = some (some x) := fun {i x} e => by
    rw [List.getElem?_append_left (by have := (List.getElem?_eq_some_iff.mp e).1; exact this)]; exact e
  exact ⟨fun a => ⟨fun ⟨i, o, e, h⟩ => ⟨i, o, app_get e, h⟩, fun ⟨i, o, e, h⟩ => ⟨i, o, up e, h⟩⟩, fun i a => ⟨fun ⟨o, e, h⟩ => ⟨o, app_get e, h⟩, fun ⟨o, e, h⟩ => ⟨o, up e, h⟩⟩⟩
/-- a def's last world -/
theorem leave {ivs outs : List Iv} {vs : List V} {N : List Str} {n : Nat} {env' : Env} {σ' : L2.St} (E : EnvR K (ivs.map some) (vs.map some) H F fp) (E' : EnvR K env' σ' H' F' fp') (s : Stp (fpOf (ivs.map some ++ List.replicate n none) fp) H F (fpOf env' fp') H' F')
    (f : Fix (fxOf ivs) (L2.start N vs) σ') (ho : outsOf ivs env' = some outs) :
    EnvR K (outs.map some) (vs.map some) H' F' (fun j => if isLn ((outs.map some)[j]?) then fp' j else []) ∧ Stp (fpOf (ivs.map some) fp) H F (fpOf (outs.map some) fun j => if isLn ((outs.map some)[j]?) then fp' j else []) H' F' ∧
    ∀ l, Tmp H (fpOf (ivs.map some ++ List.replicate n none) fp) F' (fpOf env' fp') l → Tmp H (fpOf (ivs.map some) fp) F' (fpOf (outs.map some) fun j => if isLn ((outs.map some)[j]?) then fp' j else []) l := by
  obtain ⟨hl, hg⟩ := outs_get ho
  obtain ⟨ow, lw⟩ := enter_own (ivs := ivs) (n := n) (fp := fp)
  have hiv : ivs.length = vs.length := by simpa using E.len
  have sub : ∀ i a, a ∈ (if isLn ((outs.map some)[i]?) = true then fp' i else []) → a ∈ fp' i := fun i a h => by
    split at h
    · exact h
    · simp at h
  -- an owned slot behind stands in the def's frame
  have own : ∀ {j : Nat} {z : Iv}, outs[j]? = some z → (∀ t, z ≠ .val t) → env'[j]? = some (some z) := fun {j z} e hn => by
    rcases hg j z e with ⟨t, _, h2⟩ | ⟨_, h2⟩
    · exact absurd h2 (hn t)
    · exact h2
  have oget : ∀ {j : Nat} {z : Iv}, (outs.map some)[j]? = some (some z) → outs[j]? = some z := fun {j z} e => by
    rw [List.getElem?_map] at e
    simpa using e
  refine ⟨⟨fun j iv ej => ?_, fun j hj => ?_, fun i j a ha hb => E'.dis i j a (sub i a ha) (sub j a hb), fun j a ha => E'.free j a (sub j a ha), E'.sub, by simp [hl, hiv]⟩, ⟨fun a o e hn => s.keep a o e fun z => hn ((ow a).mp z), s.fz, fun a h => (s.nfz a h).imp id (Or.imp (ow a).mp id), fun a h => ?_, fun a h => ?_, fun j a h => ?_⟩, fun l t a ha => ?_⟩
  · rw [ej]
    have ej := oget ej
    rcases hg j iv ej with ⟨t, h1, rfl⟩ | ⟨h1, h2⟩
    · obtain ⟨v, g1, g2⟩ := E.slot j (.val t) (by rw [List.getElem?_map, h1]; rfl)
      refine ⟨v, g1, ?_⟩
      cases hz : fp j with
      | nil => rw [hz] at g2; cases g2 with | val d => exact .val (d.mono s.fz)
      | cons a as =>
        obtain ⟨_, _, w⟩ := g2.one (a := a) (by rw [hz]; exact List.mem_cons_self)
        exact absurd rfl (w _)
    · obtain ⟨v, g1, g2⟩ := E'.slot j iv h2
      rw [f.at_ j h1] at g1
      have hj : j < vs.length := by have := (List.getElem?_eq_some_iff.mp ej).1; omega
      unfold L2.start at g1
      rw [List.getElem?_append_left (by simpa using hj)] at g1
      refine ⟨v, g1, ?_⟩
      cases iv with
      | val t =>
        cases hz : fp' j with
        | nil => rw [hz] at g2; exact g2
        | cons a as =>
          obtain ⟨_, _, w⟩ := g2.one (a := a) (by rw [hz]; exact List.mem_cons_self)
          exact absurd rfl (w _)
      | own o => exact g2
      | lck o => exact g2
  · cases q : (outs.map some)[j]? with
    | none => simp [isLn]
    | some x =>
      cases x with
      | none => simp [isLn]
      | some iv => exact absurd q (hj iv)
  · obtain ⟨j, o, ej, hj⟩ := h
    exact (s.own a ⟨j, o, own (oget ej) (fun t => by simp), sub j a hj⟩).imp (ow a).mp id
  · obtain ⟨j, hj⟩ := h
    have : (fpOf env' fp').all a := ⟨j, sub j a hj⟩
    exact (s.all a this).imp id id
  · obtain ⟨o, ej, hj⟩ := h
    exact (lw j a).mp (s.lk j a ⟨o, own (oget ej) (fun t => by simp), sub j a hj⟩)
  · obtain ⟨h1, h2, h3⟩ := t a ha
    exact ⟨h1, fun ⟨j, hj⟩ => h2 ⟨j, sub j a hj⟩, h3.imp (ow a).mp id⟩
end

/-! # a program's defs, level by level -/
/-- a def as it stands behind the top -/
structure FnK (K : PySem.W.Frag) (x : Str) (st : Stmt) (f : Addr) (fd : FuncData) : Prop where
  ex : ∃ (oc : Value) (od : Option Addr) (dV kV doc pm : Value) (an : Option Addr) (cdv ct : Value) (osl : Array (Option Value)),
    fd = PySem.W.fnOf x x (defArgs st) (defBody st) (defScope st) dV kV doc pm an cdv ct ∧ K.lookup f = some ⟨oc, od, .func fd, osl⟩ ∧ PySem.W.codeIn K cdv x = true
  kp : PySem.W.keepIn K (.ref f) = true
/-- what a program's names are -/
structure Names0 where
  fs : List (Str × Nat)
  gs : List (Str × Nat)
  gcd : Bool
  lf : Option Str
  dn : List Str
  rq : Bool
def Names0.at_ (n : Names0) (N : List Str) (np : Nat) : Gam := ⟨N, np, n.fs, n.gs, n.gcd, n.lf, n.dn, n.rq⟩
structure Row (K : PySem.W.Frag) (mg : Str → Option Value) (nm : Names0) (Pr : Nat → Option FnI) (D : Nat → Nat → List T) (i : Nat) (x : Str) (st : Stmt) (N ps : List Str) (f : Addr) (fd : FuncData) : Prop where
  fn : FnK K x st f fd
  mg : mg x = some (.ref f)
  sc : FnScope N ps (defScope st)
  pr : ∃ I, Pr i = some I ∧ I.np = ps.length ∧ I.ns = N.length ∧ trSs (nm.at_ N ps.length) (tr (nm.at_ N ps.length) 40) (defScope st) 60 (defBody st) = some I.body
  bd : ∀ n, ∃ dvs ds, Vals dvs ds ∧ (∀ F, DenAll K F dvs (D i n)) ∧ Binds K fd ps ds
structure Facts (K : PySem.W.Frag) (mg : Str → Option Value) (nm : Names0) (Pr : Nat → Option FnI) (G : Nat → T) (D : Nat → Nat → List T) : Prop where
  fn : ∀ x i, nm.fs.lookup x = some i → ∃ st N ps f fd, Row K mg nm Pr D i x st N ps f fd
  gl : ∀ x j, nm.gs.lookup x = some j → ∃ v u, mg x = some u ∧ RelV v u ∧ ∀ F, Den K F v (G j)
  blt : ∀ x ∈ bNames, mg x = none
  gcd : nm.gcd = true → mg "gcd" = some (.builtin "math.gcd")
  lf : ∀ x, nm.lf = some x → ∃ f, mg x = some (.ref f) ∧ LfOk K mg f
section
variable {gq : Bool} {P : Program} {w : World} {K : PySem.W.Frag} {mg : Str → Option Value} {base : Heap} {nm : Names0} {Pr : Nat → Option FnI} {G : Nat → T} {D : Nat → Nat → List T} {L : Nat}
theorem level (hq : nm.rq = true → gq = true) (Fa : Facts K mg nm Pr G D) : ∀ (k : Nat) {i : Nat} {x : Str} {st : Stmt} {N ps : List Str} {f : Addr} {fd : FuncData}, Row K mg nm Pr D i x st N ps f fd → FnG gq P w K mg base k f fd ps (spF K (callF Pr G D L k i))
  | 0, i, x, st, N, ps, f, fd, R => ⟨fun vs H Q E h => by obtain ⟨_, _, _, _, q⟩ := h; exact q.elim, fun A outer s H args us vs Q E _ _ _ _ _ h => by obtain ⟨_, _, _, _, q⟩ := h; exact q.elim⟩
  | k + 1, i, x, st, N, ps, f, fd, R => by
    obtain ⟨⟨oc, od, dV, kV, doc, pm, an, cdv, ct, osl, rfl, lk, hcd⟩, kp⟩ := R.fn
    obtain ⟨I, hI, hnp, hns, hbody⟩ := R.pr
    have lens : ∀ vs H Q E, spF K (callF Pr G D L (k + 1) i) vs H Q E → vs.length = ps.length := fun vs H Q E h => by
      obtain ⟨ivs, F, fp, E, q⟩ := h
      have hl : ivs.length = vs.length := by simpa using E.len
      by_cases hz : ivs.length = I.np
      · omega
      · simp only [callF, hI, if_neg hz] at q
    refine fn_g lk hcd R.sc lens fun A outer s H vs Q Ex hr hgd hsp => ?_
    have hlen := lens _ _ _ _ hsp
    obtain ⟨ivs, F, fp, E, q⟩ := hsp
    have hl : ivs.length = vs.length := by simpa using E.len
    have hz : ivs.length = I.np := by omega
    have g : Good gq (nm.at_ N ps.length) (callF Pr G D L k) G D (cxOf (CX P w) P w K mg base N x (defScope st) f cdv A outer s H Ex) (fun cls d _ H => Ex cls d H) k (defScope st) (defScope st) :=
      { scope := rfl
        kind := R.sc.kind
        N := rfl
        nd := R.sc.nd
        calm := rfl
        room := hr
        gd := hgd
        rq := hq
        takes := takes_of rfl rfl rfl rfl
        loc := fun y hy => ⟨isLoc_or hy, .inl rfl⟩
        fn := fun y j hj => by
          obtain ⟨st', N', ps', f', fd', R'⟩ := Fa.fn y j hj
          exact ⟨f', fd', ps', R'.mg, R'.fn.kp, level hq Fa k R', R'.bd⟩
        gl := Fa.gl
        blt := Fa.blt
        gcd := Fa.gcd
        lf := Fa.lf }
    refine ⟨_, trSs_ok (fx := fxOf ivs) (L := L) (tr_ok 40) 60 g (passes_of rfl) ⟨rfl, rfl⟩ hbody, ivs.map some ++ List.replicate (I.ns - I.np) none, F, fp, enter E (by omega), ?_⟩
    simp only [callF, hI, if_pos hz] at q
    cases er : xcs (callF Pr G D L k) G D (fxOf ivs) L I.body (ivs.map some ++ List.replicate (I.ns - I.np) none) with
    | stuck => rw [er] at q; exact q.elim
    | exc z env' =>
      rw [er] at q
      intro cls d σ' H' F' fp' E' t f' xr
      simp only [resOf] at q
      split at q
      · rename_i outs ho
        split at ho
        · rename_i o ho'
          cases ho
        · cases ho
      · rename_i z' outs ho
        split at ho
        · rename_i o ho'
          cases ho
          obtain ⟨e1, e2, e3⟩ := leave E E' t f' ho'
          exact q cls d H' F' _ e1 e2 xr
        · cases ho
      · exact q.elim
    | ok sg env' =>
      rw [er] at q
      intro σ' H' F' fp' E' t f'
      cases sg with
      | brk => exact q.elim
      | cnt => exact q.elim
      | nxt =>
        simp only [resOf] at q
        cases ho : outsOf ivs env' with
        | none => rw [ho] at q; exact q.elim
        | some o =>
          rw [ho] at q
          obtain ⟨e1, e2, e3⟩ := leave E E' t f' ho
          exact q H' F' _ e1 e2 .non [] (.val .non) .nil
      | ret iv =>
        simp only [resOf] at q
        cases ho : outsOf ivs env' with
        | none => rw [ho] at q; exact q.elim
        | some o =>
          rw [ho] at q
          obtain ⟨e1, e2, e3⟩ := leave E E' t f' ho
          exact fun v l hv tm => q H' F' _ e1 e2 v l hv (e3 l tm)
end
end G
namespace G
open PySem PySem.Spec PyProof.Rows L2

/-! # the end of a law -/
/-- a def as the top has written it (no defaults) -/
structure Raw (K : PySem.W.Frag) (x : Str) (st : Stmt) (f : Addr) : Prop where
  ns : PySem.W.nsIn K mainGlobals x = some (some (.ref f))
  ex : ∃ (oc : Value) (od : Option Addr) (kV doc pm : Value) (an : Option Addr) (cdv ct : Value) (osl : Array (Option Value)),
    K.lookup f = some ⟨oc, od, .func (PySem.W.fnOf x x (defArgs st) (defBody st) (defScope st) .none kV doc pm an cdv ct), osl⟩ ∧ PySem.W.codeIn K cdv x = true
  kp : PySem.W.keepIn K (.ref f) = true
theorem raw_mk {K : PySem.W.Frag} {x : Str} {st : Stmt} {f : Addr} {oc : Value} {od : Option Addr} {kV doc pm : Value} {an : Option Addr} {cdv ct : Value} {osl : Array (Option Value)}
    (a : PySem.W.nsIn K mainGlobals x = some (some (.ref f))) (l : K.lookup f = some ⟨oc, od, .func (PySem.W.fnOf x x (defArgs st) (defBody st) (defScope st) .none kV doc pm an cdv ct), osl⟩)
    (c : PySem.W.codeIn K cdv x = true) (k : PySem.W.keepIn K (.ref f) = true) : ∃ f, Raw K x st f := ⟨f, a, ⟨_, _, _, _, _, _, _, _, _, l, c⟩, k⟩
/-- names that the top does not write -/
def NoneOf (K : PySem.W.Frag) : List Str → Prop
  | [] => True
  | x :: xs => PySem.W.nsIn K mainGlobals x = some none ∧ NoneOf K xs
/-- how a def's arguments are bound, whatever else stands in it -/
def BindsAll (x : Str) (st : Stmt) (ps : List Str) : Prop := ∀ (kV doc pm : Value) (an : Option Addr) (cdv ct : Value) (us : List Value), us.length = ps.length →
  bindArgs (PySem.W.fnOf x x (defArgs st) (defBody st) (defScope st) .none kV doc pm an cdv ct) ⟨us, []⟩ = pure (ps.zip us)
/-- a row of a program's table -/
structure Tab (nm : Names0) (Pr : Nat → Option FnI) (i : Nat) (x : Str) (st : Stmt) (N ps : List Str) : Prop where
  sc : FnScope N ps (defScope st)
  pr : ∃ I, Pr i = some I ∧ I.np = ps.length ∧ I.ns = N.length ∧ trSs (nm.at_ N ps.length) (tr (nm.at_ N ps.length) 40) (defScope st) 60 (defBody st) = some I.body
  bd : BindsAll x st ps
section
variable {K : PySem.W.Frag} {mg : Str → Option Value} {h : Heap} {nm : Names0} {Pr : Nat → Option FnI} {G : Nat → T}
theorem Raw.row {D : Nat → Nat → List T} {i : Nat} {x : Str} {st : Stmt} {N ps : List Str} {f : Addr} (X : K.In h) (Gn : h.Ns mainGlobals mg) (r : Raw K x st f) (t : Tab nm Pr i x st N ps) (hD : ∀ n, D i n = []) : ∃ fd, Row K mg nm Pr D i x st N ps f fd ∧ ∀ us : List Value, us.length = ps.length → bindArgs fd ⟨us, []⟩ = pure (ps.zip us) := by
  obtain ⟨oc, od, kV, doc, pm, an, cdv, ct, osl, l, c⟩ := r.ex
  have b : Binds K (PySem.W.fnOf x x (defArgs st) (defBody st) (defScope st) .none kV doc pm an cdv ct) ps [] := Binds.all fun us hl => t.bd kV doc pm an cdv ct us hl
  exact ⟨_, ⟨⟨⟨_, _, _, _, _, _, _, _, _, _, rfl, l, c⟩, r.kp⟩, PySem.W.mg_of X Gn r.ns, t.sc, t.pr, fun n => ⟨[], [], .nil, fun F => by rw [hD n]; exact .nil, b⟩⟩, fun us hl => t.bd kV doc pm an cdv ct us hl⟩
theorem none_all (X : K.In h) (Gn : h.Ns mainGlobals mg) : ∀ {l : List Str}, NoneOf K l → ∀ x ∈ l, mg x = none
  | [], _, x, hx => by simp at hx
  | y :: l, ⟨h1, h2⟩, x, hx => by
    rcases List.mem_cons.mp hx with e | hx
    · rw [e]; exact PySem.W.mg_none_of X Gn h1
    · exact none_all X Gn h2 x hx
end
/-- a def as the top has written it, its last parameter's default an int -/
structure RawD (K : PySem.W.Frag) (x : Str) (st : Stmt) (f : Addr) (z : Int) : Prop where
  ns : PySem.W.nsIn K mainGlobals x = some (some (.ref f))
  ex : ∃ (oc : Value) (od : Option Addr) (kV doc pm : Value) (an : Option Addr) (cdv ct : Value) (osl : Array (Option Value)) (a : Addr) (o : Obj) (t : Tok) (n : Nat),
    K.lookup f = some ⟨oc, od, .func (PySem.W.fnOf x x (defArgs st) (defBody st) (defScope st) (.ref a) kV doc pm an cdv ct), osl⟩ ∧ PySem.W.codeIn K cdv x = true ∧ K.lookup a = some o ∧ o.data = .seq #[.int z t] n
  kp : PySem.W.keepIn K (.ref f) = true
theorem rawD_mk {K : PySem.W.Frag} {x : Str} {st : Stmt} {f : Addr} {oc : Value} {od : Option Addr} {kV doc pm : Value} {an : Option Addr} {cdv ct : Value} {osl : Array (Option Value)} {a2 : Addr} {o : Obj} {z : Int} {t : Tok} {n : Nat}
    (a : PySem.W.nsIn K mainGlobals x = some (some (.ref f))) (l : K.lookup f = some ⟨oc, od, .func (PySem.W.fnOf x x (defArgs st) (defBody st) (defScope st) (.ref a2) kV doc pm an cdv ct), osl⟩)
    (c : PySem.W.codeIn K cdv x = true) (k : PySem.W.keepIn K (.ref f) = true) (l2 : K.lookup a2 = some o) (e : o.data = .seq #[.int z t] n) : ∃ f, RawD K x st f z := ⟨f, a, ⟨_, _, _, _, _, _, _, _, _, _, _, _, _, l, c, l2, e⟩, k⟩
/-- how a def with one default binds, whatever else stands in it -/
def BindsDfl (x : Str) (st : Stmt) (ps : List Str) (z : Int) : Prop := ∀ (a : Addr) (kV doc pm : Value) (an : Option Addr) (cdv ct : Value) (t : Tok),
  (∀ us : List Value, us.length = ps.length → ∃ k, bindArgs (PySem.W.fnOf x x (defArgs st) (defBody st) (defScope st) (.ref a) kV doc pm an cdv ct) ⟨us, []⟩ = seqItems? (.ref a) >>= k ∧ k (some #[.int z t]) = pure (ps.zip us)) ∧
  ∀ us : List Value, us.length + 1 = ps.length → ∃ k, bindArgs (PySem.W.fnOf x x (defArgs st) (defBody st) (defScope st) (.ref a) kV doc pm an cdv ct) ⟨us, []⟩ = seqItems? (.ref a) >>= k ∧ k (some #[.int z t]) = pure (ps.zip (us ++ [.int z t]))
structure TabD (nm : Names0) (Pr : Nat → Option FnI) (i : Nat) (x : Str) (st : Stmt) (N ps : List Str) (z : Int) : Prop where
  sc : FnScope N ps (defScope st)
  pr : ∃ I, Pr i = some I ∧ I.np = ps.length ∧ I.ns = N.length ∧ trSs (nm.at_ N ps.length) (tr (nm.at_ N ps.length) 40) (defScope st) 60 (defBody st) = some I.body
  bd : BindsDfl x st ps z
theorem RawD.row {K : PySem.W.Frag} {mg : Str → Option Value} {h : Heap} {nm : Names0} {Pr : Nat → Option FnI} {D : Nat → Nat → List T} {i : Nat} {x : Str} {st : Stmt} {N ps : List Str} {f : Addr} {z : Int} (X : K.In h) (Gn : h.Ns mainGlobals mg) (r : RawD K x st f z) (t : TabD nm Pr i x st N ps z) (hD : ∀ n, D i n = [] ∨ D i n = [.int z]) : ∃ fd, Row K mg nm Pr D i x st N ps f fd := by
  obtain ⟨oc, od, kV, doc, pm, an, cdv, ct, osl, a, o, tk, n, l, c, l2, e⟩ := r.ex
  refine ⟨_, ⟨⟨⟨_, _, _, _, _, _, _, _, _, _, rfl, l, c⟩, r.kp⟩, PySem.W.mg_of X Gn r.ns, t.sc, t.pr, fun m => ?_⟩⟩
  rcases hD m with q | q
  · refine ⟨[], [], .nil, fun F => by rw [q]; exact .nil, fun s us KX hl => ?_⟩
    rw [List.append_nil] at hl ⊢
    obtain ⟨k, e1, e2⟩ := (t.bd a kV doc pm an cdv ct tk).1 us hl
    refine L2.BindsTo.of_looks fun M => ?_
    rw [e1]
    exact looks_items KX l2 e (by rw [e2]; exact .of_pure rfl)
  · refine ⟨[.int z], [.int z tk], .cons ⟨tk, rfl⟩ .nil, fun F => by rw [q]; exact .cons (.int z) .nil, fun s us KX hl => ?_⟩
    obtain ⟨k, e1, e2⟩ := (t.bd a kV doc pm an cdv ct tk).2 us (by simpa using hl)
    refine L2.BindsTo.of_looks fun M => ?_
    rw [e1]
    exact looks_items KX l2 e (by rw [e2]; exact .of_pure rfl)
/-- a name that holds a pair of ints -/
theorem glob_pair {K : PySem.W.Frag} {mg : Str → Option Value} {h : Heap} {x : Str} {a : Addr} {o : Obj} {i j : Int} {t t' : Tok} {n : Nat} (X : K.In h) (Gn : h.Ns mainGlobals mg) (e : PySem.W.nsIn K mainGlobals x = some (some (.ref a))) (l : K.lookup a = some o) (hc : o.cls = .type "tuple")
    (d : o.data = .seq #[.int i t, .int j t'] n) : ∃ v u, mg x = some u ∧ RelV v u ∧ ∀ F, Den K F v (.tup [.int i, .int j]) :=
  ⟨.ref a, .ref a, PySem.W.mg_of X Gn e, rfl, fun F => .tup (vs := [.int i, .int j]) (.inr ⟨o, _, n, l, hc, d, by show 2 ≤ sizeLine; decide, .cons ⟨t, rfl⟩ (.cons ⟨t', rfl⟩ .nil)⟩) (.cons (.int i) (.cons (.int j) .nil))⟩
/-- a name that holds an int -/
theorem glob_int {K : PySem.W.Frag} {mg : Str → Option Value} {h : Heap} {x : Str} {i : Int} {t : Tok} (X : K.In h) (Gn : h.Ns mainGlobals mg) (e : PySem.W.nsIn K mainGlobals x = some (some (.int i t))) : ∃ v u, mg x = some u ∧ RelV v u ∧ ∀ F, Den K F v (.int i) :=
  ⟨.int i, .int i t, PySem.W.mg_of X Gn e, ⟨t, rfl⟩, fun F => .int i⟩
/-- what the law's def promises -/
def spLaw (Pr : Nat → Option FnI) (G : Nat → T) (D : Nat → Nat → List T) (k i : Nat) (K : PySem.W.Frag) : Sp := fun vs H Q E => ∃ L, spF K (callF Pr G D L k i) vs H Q E
theorem law_ok {P : Program} {w : World} {K : PySem.W.Frag} {mg : Str → Option Value} {base : Heap} {nm : Names0} {Pr : Nat → Option FnI} {G : Nat → T} {D : Nat → Nat → List T} (Fa : Facts K mg nm Pr G D) {k i : Nat} {x : Str} {st : Stmt} {N ps : List Str} {f : Addr} {fd : FuncData}
    (R : Row K mg nm Pr D i x st N ps f fd) : FnG true P w K mg base k f fd ps (spLaw Pr G D k i K) := by
  have F : ∀ L, FnG true P w K mg base k f fd ps (spF K (callF Pr G D L k i)) := fun L => level (fun _ => rfl) Fa k R
  refine ⟨fun vs H Q E ⟨L, h⟩ => (F L).len vs H Q E h, fun A outer s H args us vs Q E hr hg he hb hv ⟨L, h⟩ => ?_⟩
  exact (F L).run A outer s H args us vs Q E hr hg he hb hv h
/-- the script, and the answer -/
theorem script_ok {Pr : Nat → Option FnI} {G : Nat → T} {D : Nat → Nat → List T} {k i : Nat} {K : PySem.W.Frag} {H : Hp} {a : Addr} {ns : List Int} (hO : Only H) (hS : SqL K H a (ns.map V.int))
    (law : ∃ L outs, callF Pr G D L k i [.val (.rlst (ns.map T.int))] = .ok (.val (.bl true)) outs) : spLaw Pr G D k i K [.ref a] H (fun v _ => v = .bl true) fun _ _ _ => False := by
  obtain ⟨L, outs, e⟩ := law
  refine ⟨L, [.val (.rlst (ns.map T.int))], H, fun _ => [], ⟨fun j iv ej => ?_, fun _ _ => rfl, fun _ _ _ h => by simp at h, fun _ _ h => by simp at h, fun _ _ h => h, rfl⟩, ?_⟩
  · cases j with
    | zero => cases ej; exact ⟨_, rfl, .val (.rlst hS (.of_ints ns))⟩
    | succ j => simp at ej
  · rw [e]
    intro H' F' fp' E' t v l iv tm
    cases iv with
    | val d => cases d; rfl
theorem cx_no {P : Program} {w : World} : ∀ (H : Hp) (s : Shared) (e : Value) (s' : Shared), CX P w [] H s (fun _ _ _ => False) e s' → False := fun H s e s' h => by
  obtain ⟨_, _, _, _, _, _, _, _, _, _, _, _, q⟩ := h
  exact q
/-! # from the top to the law's call; nothing is being shown there -/
theorem law_run {P : Program} {w : World} {K : PySem.W.Frag} {mg mb : Str → Option Value} {k : Nat} {fa a : Addr} {fd : FuncData} {x : Str} {sp : Sp} {s : Shared} {us : List Value} {ns : List Int}
    (kin : K.In s.heap) (gl : s.heap.Ns mainGlobals mg) (bl : s.heap.Ns builtinsNs mb) (bb : ∀ y : Str, y ≠ "__name__" → mb y = bootBuiltins y) (nl : s.heap.NoLimit) (ng : s.gens = #[])
    (ob : s.heap.get? a = some { cls := .type "list", data := .seq us.toArray }) (it : IntsAre us ns) (sz : ns.length ≤ sizeLine) (rm : Room k callerA)
    (fn : ∀ b0 : Heap, K.In b0 → b0.Ns mainGlobals mg → FnG true P w K mg b0 k fa fd [x] sp) (bi : ∀ (s0 : Shared) (v : Value), BindsTo s0 fd ⟨[v], []⟩ [(x, v)])
    (pr : ∀ H : Hp, Only H → SqL K H a (ns.map V.int) → sp [.ref a] H (fun v _ => v = .bl true) fun _ _ _ => False) :
    codeAny (model P w) callerA (.call (.ref fa) ⟨[.ref a], []⟩) (fun r s' => r = .ok (.ret (.bool true)) ∧ OldK s.heap s'.heap ∧ s'.os = s.os ∧ AllBare s'.gens) s := by
  have rel := vals_ints it
  have hlen := it.length
  -- H tells of the script alone
  have main : ∀ H : Hp, Only H → SqL K H a (ns.map V.int) → HOk P w H s.heap → (∀ b, b ≠ a → H b = none) → (H a ≠ none → K.lookup a = none) →
      codeAny (model P w) callerA (.call (.ref fa) ⟨[.ref a], []⟩) (fun r s' => r = .ok (.ret (.bool true)) ∧ OldK s.heap s'.heap ∧ s'.os = s.os ∧ AllBare s'.gens) s := by
    intro H only sq ok off inK
    have up : ∀ {b : Addr} {o : Obj}, s.heap.get? b = some o → H b = none → (hidT s.heap H).get? b = some o := fun p q => hidT_get p q
    have dicts : ∀ {b : Addr} {o : Obj} {es : Array DictEntry} {ep : Nat}, s.heap.get? b = some o → o.data = .dict es ep → H b = none := fun {b o es ep} p q => by
      by_cases hb : b = a
      · subst hb
        rw [ob] at p
        cases p
        cases (show Data.seq us.toArray _ = Data.dict es ep from q)
      · exact off b hb
    have spaces : ∀ {b : Addr} {m : Str → Option Value}, s.heap.Ns b m → (hidT s.heap H).Ns b m := fun {b m} ⟨o, es, ep, p, q, r⟩ => ⟨o, es, ep, up p (dicts p q), q, r⟩
    have kin' : K.In (hidT s.heap H) := fun b o p => up (kin b o p) (by
      by_cases hb : b = a
      · subst hb
        by_cases hz : H b = none
        · exact hz
        · rw [inK hz] at p; cases p
      · exact off b hb)
    have md : Mod K mg (hidT s.heap H) := by
      obtain ⟨mc, n1, n2⟩ := nl
      exact ⟨kin', spaces gl, ⟨mb, spaces bl, bb⟩, ⟨mc, spaces n1, n2⟩⟩
    have env0 : Env0 P w K mg (hidT s.heap H) callerA [] s H := ⟨rfl, md, fun b o p => of_hidT p, Nat.le_of_eq (hidT_size _ _), trivial, (fun b hb => absurd (show b ∈ ([] : List Addr) from hb) (by simp)), ok, AllBare.of_eq ng⟩
    refine codeAny_mono ((fn _ kin' (spaces gl)).run callerA [] s H ⟨[.ref a], []⟩ [.ref a] [.ref a] _ _ rm (fun _ => rfl) env0 (bi s (.ref a)) (.cons rfl .nil) (pr H only sq)) fun r s' res => ?_
    match r, res with
    | .error e, res => exact (cx_no H s e s' res).elim
    | .ok .next, res => exact False.elim res
    | .ok .brk, res => exact False.elim res
    | .ok .cont, res => exact False.elim res
    | .ok (.ret u), res =>
      obtain ⟨v, H', os, bare, un, ok', rv, rfl⟩ := res
      obtain rfl : u = Value.bool true := rv
      refine ⟨rfl, OldK.of_keep fun b o p => ?_, os, bare⟩
      rcases only b with z | ⟨ob', xs, z⟩
      · exact un.keep b o p z (fun q => by cases q) (by simp)
      · obtain ⟨p1, _⟩ := ok b _ z
        obtain ⟨p2, _⟩ := ok' b _ (un.frzs b ob' _ z)
        rw [p] at p1
        cases p1
        exact p2
  cases hk : K.lookup a with
  | none =>
    refine main (fun b => if b = a then some (.frz { cls := .type "list", data := .seq us.toArray } (.lst (ns.map V.int))) else none) (fun b => ?_) (.inl (.inr ⟨{ cls := .type "list", data := .seq us.toArray }, if_pos rfl⟩)) (fun b u z => ?_) (fun b hb => if_neg hb) fun _ => hk
    · by_cases hb : b = a
      · exact .inr ⟨_, _, if_pos hb⟩
      · exact .inl (if_neg hb)
    · by_cases hb : b = a
      · have z := (if_pos hb).symm.trans z
        cases z
        subst hb
        exact ⟨ob, by rw [List.length_map]; exact sz, us, _, rel, ob⟩
      · cases (if_neg hb).symm.trans z
  | some o =>
    have p := kin a o hk
    rw [ob] at p
    cases p
    refine main (fun _ => none) (fun _ => .inl rfl) (.inr ⟨_, us.toArray, _, hk, rfl, rfl, rfl, ?_, by simpa using rel⟩) (fun b u z => ?_) (fun b _ => rfl) fun z => absurd rfl z
    · rw [List.size_toArray, hlen]; exact sz
    · cases (show (none : Option HO) = some u from z)
/-- the goal that the head leaves -/
theorem walk_g {l : PySem.W.OpenLaw} {n k : Nat} {q : Program} {loose : List Str} {XP : (Str → Option Value) → Heap → Prop} {YP : World → Heap → Prop} {d : DefRec} {K : Params → PySem.W.Frag} {sp : PySem.W.Frag → Sp} {x : Str}
    (hn : l.most = some n) (hs : n ≤ sizeLine) (hd : d.params.defaults = []) (rm : Room k callerA) (hY : ∀ (w : World) (h : Heap), YP w h → (K w.params).In h)
    (F : ∀ (w : World) (mg : Str → Option Value) (fa : Addr) (h : Heap), (K w.params).In h → h.Ns mainGlobals mg → mg d.name = some (.ref fa) →
      ∃ fd : FuncData, (∀ (s : Shared) (v : Value), BindsTo s fd ⟨[v], []⟩ [(x, v)]) ∧ ∀ b0 : Heap, (K w.params).In b0 → b0.Ns mainGlobals mg → FnG true l.prog w (K w.params) mg b0 k fa fd [x] (sp (K w.params)))
    (pr : ∀ (w : World) (H : Hp) (a : Addr) (ns : List Int), ns.length ≤ n → Only H → SqL (K w.params) H a (ns.map V.int) → sp (K w.params) [.ref a] H (fun v _ => v = .bl true) fun _ _ _ => False) :
    PySem.W.WalkO q loose XP YP l.row.toRowW d [] (fun f vs => PySem.call f vs) := by
  refine Att.attach_call hn hd fun w s₀ s mg mb fa o pm cd doc a us ns G Y ho hob hcd hmg hobj hints hlen hg => ?_
  have kin := hY w _ Y
  obtain ⟨fd, hb, hF⟩ := F w mg fa _ kin G.T.g hmg
  exact law_run kin G.T.g G.T.b G.T.builtins G.T.nolimit hg hobj hints (Nat.le_trans hlen hs) rm hF hb fun H only sq => pr w H a ns hlen only sq
end G
namespace G
open PySem PySem.Spec PyProof.Rows L2

/-! # what a text computes, as rules for simp -/
@[simp] theorem s_bind_ok {α β : Type} {a : α} {e : Env} {f : α → Env → Out β} : (Out.ok a e).bind f = f a e := rfl
@[simp] theorem s_bind_exc {α β : Type} {a : Xv} {e : Env} {f : α → Env → Out β} : (Out.exc a e).bind f = .exc a e := rfl
@[simp] theorem s_ev_1 : ∀ (C : Nat → List G.Iv → G.Res) (Gl : Nat → G.T) (D : Nat → Nat → List G.T) (x : G.Env) (i : Nat),
  G.ev C Gl D (G.IE.var i) x =
    match x[i]? with
    | Option.some (Option.some (G.Iv.val t)) => G.Out.ok (G.R.val t) x
    | Option.some (Option.some val) => G.Out.ok (G.R.loan i) x
    | x => G.Out.stuck := @G.ev.eq_1
@[simp] theorem s_ev_2 : ∀ (C : Nat → List G.Iv → G.Res) (Gl : Nat → G.T) (D : Nat → Nat → List G.T) (x : G.Env) (i : Nat),
  G.ev C Gl D (G.IE.mov i) x =
    match x[i]? with
    | Option.some (Option.some (G.Iv.val t)) => G.Out.ok (G.R.val t) x
    | Option.some (Option.some (G.Iv.own o)) => G.Out.ok (G.R.val (G.frz o)) (List.set x i (Option.some (G.Iv.val (G.frz o))))
    | x => G.Out.stuck := @G.ev.eq_2
@[simp] theorem s_ev_3 : ∀ (C : Nat → List G.Iv → G.Res) (Gl : Nat → G.T) (D : Nat → Nat → List G.T) (x : G.Env), G.ev C Gl D G.IE.non x = G.Out.ok (G.R.val G.T.non) x := @G.ev.eq_3
@[simp] theorem s_ev_4 : ∀ (C : Nat → List G.Iv → G.Res) (Gl : Nat → G.T) (D : Nat → Nat → List G.T) (x : G.Env) (b : Bool), G.ev C Gl D (G.IE.bl b) x = G.Out.ok (G.R.val (G.T.bl b)) x := @G.ev.eq_4
@[simp] theorem s_ev_5 : ∀ (C : Nat → List G.Iv → G.Res) (Gl : Nat → G.T) (D : Nat → Nat → List G.T) (x : G.Env) (b : Int), G.ev C Gl D (G.IE.int b) x = G.Out.ok (G.R.val (G.T.int b)) x := @G.ev.eq_5
@[simp] theorem s_ev_6 : ∀ (C : Nat → List G.Iv → G.Res) (Gl : Nat → G.T) (D : Nat → Nat → List G.T) (x : G.Env) (b : PySem.Str), G.ev C Gl D (G.IE.str b) x = G.Out.ok (G.R.val (G.T.str b)) x := @G.ev.eq_6
@[simp] theorem s_ev_7 : ∀ (C : Nat → List G.Iv → G.Res) (Gl : Nat → G.T) (D : Nat → Nat → List G.T) (x : G.Env) (j : Nat), G.ev C Gl D (G.IE.glob j) x = G.Out.ok (G.R.val (Gl j)) x := @G.ev.eq_7
@[simp] theorem s_ev_8 : ∀ (C : Nat → List G.Iv → G.Res) (Gl : Nat → G.T) (D : Nat → Nat → List G.T) (x : G.Env) (op : PySem.Operator) (a b : G.IE), G.ev C Gl D (G.IE.bin op a b) x = G.Out.bind (G.ev C Gl D a x) fun (ra : G.R) (e1 : G.Env) => G.Out.bind (G.ev C Gl D b e1) fun (rb : G.R) (e2 : G.Env) => G.ofO (Option.bind (G.lookT e2 ra) fun (x : G.T) => Option.bind (G.lookT e2 rb) fun (y : G.T) => Option.map G.rvR (G.binR op x y)) e2 := @G.ev.eq_8
@[simp] theorem s_ev_9 : ∀ (C : Nat → List G.Iv → G.Res) (Gl : Nat → G.T) (D : Nat → Nat → List G.T) (x : G.Env) (a : G.IE),
  G.ev C Gl D (G.IE.neg a) x =
    G.Out.bind (G.ev C Gl D a x) fun (ra : G.R) (e1 : G.Env) =>
      match ra with
      | G.R.val (G.T.int i) => G.Out.ok (G.R.val (G.T.int (-i))) e1
      | x => G.Out.stuck := @G.ev.eq_9
@[simp] theorem s_ev_10 : ∀ (C : Nat → List G.Iv → G.Res) (Gl : Nat → G.T) (D : Nat → Nat → List G.T) (x : G.Env) (a : G.IE),
  G.ev C Gl D (G.IE.not a) x =
    G.Out.bind (G.ev C Gl D a x) fun (ra : G.R) (e1 : G.Env) =>
      match ra with
      | G.R.val (G.T.bl i) => G.Out.ok (G.R.val (G.T.bl !i)) e1
      | x => G.Out.stuck := @G.ev.eq_10
@[simp] theorem s_ev_11 : ∀ (C : Nat → List G.Iv → G.Res) (Gl : Nat → G.T) (D : Nat → Nat → List G.T) (x : G.Env) (a b : G.IE),
  G.ev C Gl D (G.IE.and a b) x =
    G.Out.bind (G.ev C Gl D a x) fun (ra : G.R) (e1 : G.Env) =>
      match ra with
      | G.R.val (G.T.bl Bool.true) => G.ev C Gl D b e1
      | G.R.val (G.T.bl Bool.false) => G.Out.ok (G.R.val (G.T.bl Bool.false)) e1
      | x => G.Out.stuck := @G.ev.eq_11
@[simp] theorem s_ev_12 : ∀ (C : Nat → List G.Iv → G.Res) (Gl : Nat → G.T) (D : Nat → Nat → List G.T) (x : G.Env) (a b : G.IE),
  G.ev C Gl D (G.IE.or a b) x =
    G.Out.bind (G.ev C Gl D a x) fun (ra : G.R) (e1 : G.Env) =>
      match ra with
      | G.R.val (G.T.bl Bool.false) => G.ev C Gl D b e1
      | G.R.val (G.T.bl Bool.true) => G.Out.ok (G.R.val (G.T.bl Bool.true)) e1
      | x => G.Out.stuck := @G.ev.eq_12
@[simp] theorem s_ev_13 : ∀ (C : Nat → List G.Iv → G.Res) (Gl : Nat → G.T) (D : Nat → Nat → List G.T) (x : G.Env) (op : PySem.CmpOp) (a b : G.IE), G.ev C Gl D (G.IE.cmp op a b) x = G.Out.bind (G.ev C Gl D a x) fun (ra : G.R) (e1 : G.Env) => G.Out.bind (G.ev C Gl D b e1) fun (rb : G.R) (e2 : G.Env) => G.ofO (Option.bind (G.lookT e2 ra) fun (x : G.T) => Option.bind (G.lookT e2 rb) fun (y : G.T) => Option.map (fun (b : Bool) => G.R.val (G.T.bl b)) (G.cmpR op x y)) e2 := @G.ev.eq_13
@[simp] theorem s_ev_14 : ∀ (C : Nat → List G.Iv → G.Res) (Gl : Nat → G.T) (D : Nat → Nat → List G.T) (x : G.Env) (op op' : PySem.CmpOp) (a b c : G.IE),
  G.ev C Gl D (G.IE.chain op op' a b c) x =
    G.Out.bind (G.ev C Gl D a x) fun (ra : G.R) (e1 : G.Env) =>
      G.Out.bind (G.ev C Gl D b e1) fun (rb : G.R) (e2 : G.Env) =>
        match Option.bind (G.lookT e2 ra) fun (x : G.T) => Option.bind (G.lookT e2 rb) fun (y : G.T) => G.cmpR op x y with
        | Option.some Bool.true => G.Out.bind (G.ev C Gl D c e2) fun (rc : G.R) (e3 : G.Env) => G.ofO (Option.bind (G.lookT e3 rb) fun (x : G.T) => Option.bind (G.lookT e3 rc) fun (y : G.T) => Option.map (fun (b : Bool) => G.R.val (G.T.bl b)) (G.cmpR op' x y)) e3
        | Option.some Bool.false => G.Out.ok (G.R.val (G.T.bl Bool.false)) e2
        | Option.none => G.Out.stuck := @G.ev.eq_14
@[simp] theorem s_ev_15 : ∀ (C : Nat → List G.Iv → G.Res) (Gl : Nat → G.T) (D : Nat → Nat → List G.T) (x : G.Env) (c : G.IB) (a b : G.IE), G.ev C Gl D (G.IE.ifx c a b) x = G.Out.bind (G.evT C Gl D c x) fun (k : Bool) (e1 : G.Env) => if k = Bool.true then G.ev C Gl D a e1 else G.ev C Gl D b e1 := @G.ev.eq_15
@[simp] theorem s_ev_16 : ∀ (C : Nat → List G.Iv → G.Res) (Gl : Nat → G.T) (D : Nat → Nat → List G.T) (x : G.Env) (es : G.IEs), G.ev C Gl D (G.IE.tup es) x = G.Out.bind (G.evs C Gl D es x) fun (rs : List G.R) (e1 : G.Env) => G.ofO (Option.bind (G.escs e1 rs) fun (ts : List G.T) => if List.length ts ≤ PySem.sizeLine then Option.some (G.R.val (G.T.tup ts)) else Option.none) e1 := @G.ev.eq_16
@[simp] theorem s_ev_17 : ∀ (C : Nat → List G.Iv → G.Res) (Gl : Nat → G.T) (D : Nat → Nat → List G.T) (x : G.Env) (es : G.IEs), G.ev C Gl D (G.IE.lst es) x = G.Out.bind (G.evs C Gl D es x) fun (rs : List G.R) (e1 : G.Env) => G.ofO (Option.bind (G.escs e1 rs) fun (ts : List G.T) => if List.length ts ≤ PySem.sizeLine then Option.some (G.R.new (G.Ow.lst ts)) else Option.none) e1 := @G.ev.eq_17
@[simp] theorem s_ev_18 : ∀ (C : Nat → List G.Iv → G.Res) (Gl : Nat → G.T) (D : Nat → Nat → List G.T) (x : G.Env), G.ev C Gl D G.IE.dnew x = G.Out.ok (G.R.new (G.Ow.dic [])) x := @G.ev.eq_18
@[simp] theorem s_ev_19 : ∀ (C : Nat → List G.Iv → G.Res) (Gl : Nat → G.T) (D : Nat → Nat → List G.T) (x : G.Env) (f : Nat) (args : G.IEs), G.ev C Gl D (G.IE.call f args) x = G.Out.bind (G.evs C Gl D args x) fun (rs : List G.R) (e1 : G.Env) => G.callR C f (D f (G.IEs.len args)) e1 rs := @G.ev.eq_19
@[simp] theorem s_ev_20 : ∀ (C : Nat → List G.Iv → G.Res) (Gl : Nat → G.T) (D : Nat → Nat → List G.T) (x : G.Env) (b : G.BI) (args : G.IEs), G.ev C Gl D (G.IE.bi b args) x = G.Out.bind (G.evs C Gl D args x) fun (rs : List G.R) (e1 : G.Env) => G.ofO (Option.bind (G.looks e1 rs) fun (ts : List G.T) => Option.map G.rvR (G.biR b ts)) e1 := @G.ev.eq_20
@[simp] theorem s_ev_21 : ∀ (C : Nat → List G.Iv → G.Res) (Gl : Nat → G.T) (D : Nat → Nat → List G.T) (x : G.Env) (a : G.IE) (tys : List String), G.ev C Gl D (G.IE.isin a tys) x = G.Out.bind (G.ev C Gl D a x) fun (ra : G.R) (e1 : G.Env) => G.ofO (Option.bind (G.lookT e1 ra) fun (t : G.T) => if G.isDicT t = Bool.true then Option.none else Option.some (G.R.val (G.T.bl (G.isinR t tys)))) e1 := @G.ev.eq_21
@[simp] theorem s_ev_22 : ∀ (C : Nat → List G.Iv → G.Res) (Gl : Nat → G.T) (D : Nat → Nat → List G.T) (x : G.Env) (a i : G.IE), G.ev C Gl D (G.IE.ix a i) x = G.Out.bind (G.ev C Gl D a x) fun (ra : G.R) (e1 : G.Env) => G.Out.bind (G.ev C Gl D i e1) fun (ri : G.R) (e2 : G.Env) => G.ofO (Option.bind (G.lookT e2 ra) fun (x : G.T) => Option.bind (G.lookT e2 ri) fun (y : G.T) => Option.map G.R.val (G.ixR x y)) e2 := @G.ev.eq_22
@[simp] theorem s_ev_23 : ∀ (C : Nat → List G.Iv → G.Res) (Gl : Nat → G.T) (D : Nat → Nat → List G.T) (x : G.Env) (a : G.IE) (lo hi : G.IO), G.ev C Gl D (G.IE.sl a lo hi) x = G.Out.bind (G.ev C Gl D a x) fun (ra : G.R) (e1 : G.Env) => G.Out.bind (G.evO C Gl D lo e1) fun (rl : Option Int) (e2 : G.Env) => G.Out.bind (G.evO C Gl D hi e2) fun (rh : Option Int) (e3 : G.Env) => G.ofO (Option.bind (G.lookT e3 ra) fun (x : G.T) => Option.map G.rvR (G.slR x rl rh)) e3 := @G.ev.eq_23
@[simp] theorem s_ev_24 : ∀ (C : Nat → List G.Iv → G.Res) (Gl : Nat → G.T) (D : Nat → Nat → List G.T) (x : G.Env) (m : G.Me0) (o : G.IE),
  G.ev C Gl D (G.IE.met0 m o) x =
    G.Out.bind (G.ev C Gl D o x) fun (ro : G.R) (e1 : G.Env) =>
      match ro with
      | G.R.val t => G.ofO (Option.map G.rvR (G.met0R m t)) e1
      | x => G.Out.stuck := @G.ev.eq_24
@[simp] theorem s_ev_25 : ∀ (C : Nat → List G.Iv → G.Res) (Gl : Nat → G.T) (D : Nat → Nat → List G.T) (x : G.Env) (m : G.Me1) (o a : G.IE),
  G.ev C Gl D (G.IE.met1 m o a) x =
    G.Out.bind (G.ev C Gl D o x) fun (ro : G.R) (e1 : G.Env) =>
      match ro with
      | G.R.val (G.T.str s) => G.Out.bind (G.ev C Gl D a e1) fun (ra : G.R) (e2 : G.Env) => G.ofO (Option.bind (G.lookT e2 ra) fun (t : G.T) => Option.map G.rvR (G.met1R m s t)) e2
      | x => G.Out.stuck := @G.ev.eq_25
@[simp] theorem s_ev_26 : ∀ (C : Nat → List G.Iv → G.Res) (Gl : Nat → G.T) (D : Nat → Nat → List G.T) (x : G.Env) (o k x_2 : G.IE),
  G.ev C Gl D (G.IE.dget2 o k x_2) x =
    G.Out.bind (G.ev C Gl D o x) fun (ro : G.R) (e1 : G.Env) =>
      match G.lookT e1 ro with
      | Option.some (G.T.dic kvs) =>
        G.Out.bind (G.ev C Gl D k e1) fun (rk : G.R) (e2 : G.Env) =>
          G.Out.bind (G.ev C Gl D x_2 e2) fun (rx : G.R) (e3 : G.Env) =>
            G.ofO
              (match G.lookT e3 ro, Option.bind (G.lookT e3 rk) G.keyT, G.esc e3 rx with
              | Option.some (G.T.dic kts), Option.some k, Option.some t => Option.some (G.R.val (Option.getD (G.valT kts k) t))
              | x, x_1, x_3 => Option.none)
              e3
      | x => G.Out.stuck := @G.ev.eq_26
@[simp] theorem s_ev_27 : ∀ (C : Nat → List G.Iv → G.Res) (Gl : Nat → G.T) (D : Nat → Nat → List G.T) (x : G.Env) (e : G.IE), G.ev C Gl D (G.IE.sortLF e) x = G.Out.bind (G.ev C Gl D e x) fun (r : G.R) (e1 : G.Env) => G.ofO (Option.bind (G.lookT e1 r) fun (t : G.T) => Option.bind (G.seqL t) fun (xs : List G.T) => Option.bind (G.rowsI xs) fun (bs : List (List Int)) => if List.length bs ≤ PySem.sizeLine then Option.some (G.R.new (G.Ow.lst (List.map G.rowT (G.sortLF bs)))) else Option.none) e1 := @G.ev.eq_27
@[simp] theorem s_ev_30 : ∀ (C : Nat → List G.Iv → G.Res) (Gl : Nat → G.T) (D : Nat → Nat → List G.T) (x : G.Env) (i : Nat) (e : G.IE), G.ev C Gl D (G.IE.lockd i e) x = if G.isD x i = Bool.true then G.unlockR i (G.ev C Gl D e (G.lockD x i)) else G.ev C Gl D e x := @G.ev.eq_30
@[simp] theorem s_ev_31 : ∀ (C : Nat → List G.Iv → G.Res) (Gl : Nat → G.T) (D : Nat → Nat → List G.T) (x : G.Env) (es : G.IEs), G.ev C Gl D (G.IE.disp es) x = G.Out.bind (G.evs C Gl D es x) fun (rs : List G.R) (e1 : G.Env) => G.ofO (Option.bind (G.escs e1 rs) fun (ts : List G.T) => Option.bind (G.pairUp ts) fun (kvs : List (L2.Key × G.T)) => if List.length kvs ≤ 15 then Option.some (G.R.new (G.Ow.dic (G.mergeT kvs))) else Option.none) e1 := @G.ev.eq_31
@[simp] theorem s_ev_32 : ∀ (C : Nat → List G.Iv → G.Res) (Gl : Nat → G.T) (D : Nat → Nat → List G.T) (x : G.Env) (es : G.IEs), G.ev C Gl D (G.IE.fstr es) x = G.Out.bind (G.noexc (G.evs C Gl D es x)) fun (rs : List G.R) (e1 : G.Env) => G.ofO (Option.bind (G.valsR rs) fun (ts : List G.T) => Option.map (fun (s : PySem.Str) => G.R.val (G.T.str s)) (G.joinF ts PySem.Str.empty)) e1 := @G.ev.eq_32
@[simp] theorem s_evs_1 : ∀ (C : Nat → List G.Iv → G.Res) (Gl : Nat → G.T) (D : Nat → Nat → List G.T) (x : G.Env), G.evs C Gl D G.IEs.nil x = G.Out.ok [] x := @G.evs.eq_1
@[simp] theorem s_evs_2 : ∀ (C : Nat → List G.Iv → G.Res) (Gl : Nat → G.T) (D : Nat → Nat → List G.T) (x : G.Env) (e : G.IE) (es : G.IEs), G.evs C Gl D (G.IEs.cons e es) x = G.Out.bind (G.ev C Gl D e x) fun (r : G.R) (e1 : G.Env) => G.Out.bind (G.evs C Gl D es e1) fun (rs : List G.R) (e2 : G.Env) => G.Out.ok (r :: rs) e2 := @G.evs.eq_2
@[simp] theorem s_evO_1 : ∀ (C : Nat → List G.Iv → G.Res) (Gl : Nat → G.T) (D : Nat → Nat → List G.T) (x : G.Env), G.evO C Gl D G.IO.none x = G.Out.ok Option.none x := @G.evO.eq_1
@[simp] theorem s_evO_2 : ∀ (C : Nat → List G.Iv → G.Res) (Gl : Nat → G.T) (D : Nat → Nat → List G.T) (x : G.Env) (e : G.IE),
  G.evO C Gl D (G.IO.some e) x =
    G.Out.bind (G.ev C Gl D e x) fun (r : G.R) (e1 : G.Env) =>
      match r with
      | G.R.val (G.T.int i) => G.Out.ok (Option.some i) e1
      | x => G.Out.stuck := @G.evO.eq_2
@[simp] theorem s_evC_1 : ∀ (C : Nat → List G.Iv → G.Res) (Gl : Nat → G.T) (D : Nat → Nat → List G.T) (x : G.Env), G.evC C Gl D G.IBO.none x = G.Out.ok Bool.true x := @G.evC.eq_1
@[simp] theorem s_evC_2 : ∀ (C : Nat → List G.Iv → G.Res) (Gl : Nat → G.T) (D : Nat → Nat → List G.T) (x : G.Env) (e : G.IB), G.evC C Gl D (G.IBO.some e) x = G.evT C Gl D e x := @G.evC.eq_2
@[simp] theorem s_evSrc_1 : ∀ (C : Nat → List G.Iv → G.Res) (Gl : Nat → G.T) (D : Nat → Nat → List G.T) (x : G.Env) (e : G.IE),
  G.evSrc C Gl D (G.Src.seq e) x =
    G.Out.bind (G.ev C Gl D e x) fun (r : G.R) (e1 : G.Env) =>
      match G.dicOf e1 r with
      | Option.some kts => G.Out.ok (G.keysT kts, Option.none) e1
      | Option.none => G.ofO (Option.bind (G.lookT e1 r) fun (t : G.T) => Option.map (fun (xs : List G.T) => (xs, G.lockOf e1 r)) (G.seqI t)) e1 := @G.evSrc.eq_1
@[simp] theorem s_evSrc_2 : ∀ (C : Nat → List G.Iv → G.Res) (Gl : Nat → G.T) (D : Nat → Nat → List G.T) (x : G.Env) (e : G.IE),
  G.evSrc C Gl D (G.Src.rng1 e) x =
    G.Out.bind (G.ev C Gl D e x) fun (r : G.R) (e1 : G.Env) =>
      match r with
      | G.R.val (G.T.int j) => if G.inRng j = Bool.true then G.Out.ok (G.rngT 0 (Int.toNat j), Option.none) e1 else G.Out.stuck
      | x => G.Out.stuck := @G.evSrc.eq_2
@[simp] theorem s_evSrc_3 : ∀ (C : Nat → List G.Iv → G.Res) (Gl : Nat → G.T) (D : Nat → Nat → List G.T) (x : G.Env) (a b : G.IE),
  G.evSrc C Gl D (G.Src.rng2 a b) x =
    G.Out.bind (G.ev C Gl D a x) fun (r : G.R) (e1 : G.Env) =>
      G.Out.bind (G.ev C Gl D b e1) fun (r2 : G.R) (e2 : G.Env) =>
        match r, r2 with
        | G.R.val (G.T.int i), G.R.val (G.T.int j) => if (G.inRng i && G.inRng j) = Bool.true then G.Out.ok (G.rngT i (Int.toNat (j - i)), Option.none) e2 else G.Out.stuck
        | x, x_1 => G.Out.stuck := @G.evSrc.eq_3
@[simp] theorem s_evSrc_4 : ∀ (C : Nat → List G.Iv → G.Res) (Gl : Nat → G.T) (D : Nat → Nat → List G.T) (x : G.Env) (a b : G.IE),
  G.evSrc C Gl D (G.Src.zip a b) x =
    G.Out.bind (G.ev C Gl D a x) fun (ra : G.R) (e1 : G.Env) =>
      G.Out.bind (G.ev C Gl D b e1) fun (rb : G.R) (e2 : G.Env) =>
        G.ofO
          (Option.bind (G.esc e2 ra) fun (x : G.T) =>
            Option.bind (G.esc e2 rb) fun (y : G.T) =>
              match x, y with
              | G.T.lst xs, G.T.lst ys => Option.some (G.zipT xs ys, Option.none)
              | G.T.rlst xs, G.T.lst ys => Option.some (G.zipT xs ys, Option.none)
              | G.T.tup xs, G.T.tup ys => Option.some (G.zipT xs ys, Option.none)
              | x, x_1 => Option.none)
          e2 := @G.evSrc.eq_4
@[simp] theorem s_evT_1 : ∀ (C : Nat → List G.Iv → G.Res) (Gl : Nat → G.T) (D : Nat → Nat → List G.T) (x : G.Env) (a : G.IB), G.evT C Gl D (G.IB.not a) x = G.Out.bind (G.evT C Gl D a x) fun (k : Bool) (e1 : G.Env) => G.Out.ok (!k) e1 := @G.evT.eq_1
@[simp] theorem s_evT_2 : ∀ (C : Nat → List G.Iv → G.Res) (Gl : Nat → G.T) (D : Nat → Nat → List G.T) (x : G.Env) (a b : G.IB), G.evT C Gl D (G.IB.and a b) x = G.Out.bind (G.evT C Gl D a x) fun (k : Bool) (e1 : G.Env) => if k = Bool.true then G.evT C Gl D b e1 else G.Out.ok Bool.false e1 := @G.evT.eq_2
@[simp] theorem s_evT_3 : ∀ (C : Nat → List G.Iv → G.Res) (Gl : Nat → G.T) (D : Nat → Nat → List G.T) (x : G.Env) (a b : G.IB), G.evT C Gl D (G.IB.or a b) x = G.Out.bind (G.evT C Gl D a x) fun (k : Bool) (e1 : G.Env) => if k = Bool.true then G.Out.ok Bool.true e1 else G.evT C Gl D b e1 := @G.evT.eq_3
@[simp] theorem s_evT_4 : ∀ (C : Nat → List G.Iv → G.Res) (Gl : Nat → G.T) (D : Nat → Nat → List G.T) (x : G.Env) (e : G.IE), G.evT C Gl D (G.IB.val e) x = G.Out.bind (G.ev C Gl D e x) fun (r : G.R) (e1 : G.Env) => G.ofO (Option.bind (G.lookT e1 r) G.truR) e1 := @G.evT.eq_4
@[simp] theorem s_xc_1 : ∀ (C : Nat → List G.Iv → G.Res) (Gl : Nat → G.T) (D : Nat → Nat → List G.T) (fx : Nat → Bool) (L : Nat) (x : G.Env) (i : Nat) (e : G.IE), G.xc C Gl D fx L (G.IS.asg i e) x = G.Out.bind (G.ev C Gl D e x) fun (r : G.R) (e1 : G.Env) => G.asgR fx i r e1 := @G.xc.eq_1
@[simp] theorem s_xc_2 : ∀ (C : Nat → List G.Iv → G.Res) (Gl : Nat → G.T) (D : Nat → Nat → List G.T) (fx : Nat → Bool) (L : Nat) (x : G.Env) (is : List Nat) (e : G.IE),
  G.xc C Gl D fx L (G.IS.asgT is e) x =
    G.Out.bind (G.ev C Gl D e x) fun (r : G.R) (e1 : G.Env) =>
      match Option.bind (G.esc e1 r) fun (t : G.T) => G.bindT fx (G.Tgt.tup is) t e1 with
      | Option.some e2 => G.Out.ok G.Sg.nxt e2
      | Option.none => G.Out.stuck := @G.xc.eq_2
@[simp] theorem s_xc_3 : ∀ (C : Nat → List G.Iv → G.Res) (Gl : Nat → G.T) (D : Nat → Nat → List G.T) (fx : Nat → Bool) (L : Nat) (x : G.Env) (i j : Nat) (a b : G.IE),
  G.xc C Gl D fx L (G.IS.par i j a b) x =
    G.Out.bind (G.ev C Gl D a x) fun (r : G.R) (e1 : G.Env) =>
      G.Out.bind (G.ev C Gl D b e1) fun (r2 : G.R) (e2 : G.Env) =>
        match Option.bind (G.escs e2 [r, r2]) fun (ts : List G.T) => G.bindAll fx [i, j] ts e2 with
        | Option.some e3 => G.Out.ok G.Sg.nxt e3
        | Option.none => G.Out.stuck := @G.xc.eq_3
@[simp] theorem s_xc_4 : ∀ (C : Nat → List G.Iv → G.Res) (Gl : Nat → G.T) (D : Nat → Nat → List G.T) (fx : Nat → Bool) (L : Nat) (x : G.Env) (c : Nat) (ix v : G.IE),
  G.xc C Gl D fx L (G.IS.setix c ix v) x =
    G.Out.bind (G.ev C Gl D v x) fun (rv : G.R) (e1 : G.Env) =>
      if G.isO e1 c = Bool.true then
        G.Out.bind (G.ev C Gl D ix e1) fun (ri : G.R) (e2 : G.Env) =>
          match G.esc e2 rv, G.lookT e2 ri with
          | Option.some tv, Option.some ti => G.setixR c ti tv e2
          | x, x_1 => G.Out.stuck
      else G.Out.stuck := @G.xc.eq_4
@[simp] theorem s_xc_5 : ∀ (C : Nat → List G.Iv → G.Res) (Gl : Nat → G.T) (D : Nat → Nat → List G.T) (fx : Nat → Bool) (L : Nat) (x : G.Env) (m : G.Mu) (c : Nat) (es : G.IEs),
  G.xc C Gl D fx L (G.IS.mut m c es) x =
    if G.isL x c = Bool.true then
      G.Out.bind (G.evs C Gl D es x) fun (rs : List G.R) (e1 : G.Env) =>
        match m with
        | G.Mu.extend =>
          match G.looks e1 rs with
          | Option.some ts => G.mutR m c ts e1
          | Option.none => G.Out.stuck
        | x =>
          match G.escs e1 rs with
          | Option.some ts => G.mutR m c ts e1
          | Option.none => G.Out.stuck
    else G.Out.stuck := @G.xc.eq_5
@[simp] theorem s_xc_6 : ∀ (C : Nat → List G.Iv → G.Res) (Gl : Nat → G.T) (D : Nat → Nat → List G.T) (fx : Nat → Bool) (L : Nat) (x : G.Env) (e : G.IE), G.xc C Gl D fx L (G.IS.expr e) x = G.Out.bind (G.ev C Gl D e x) fun (x : G.R) (e1 : G.Env) => G.Out.ok G.Sg.nxt e1 := @G.xc.eq_6
@[simp] theorem s_xc_7 : ∀ (C : Nat → List G.Iv → G.Res) (Gl : Nat → G.T) (D : Nat → Nat → List G.T) (fx : Nat → Bool) (L : Nat) (x : G.Env) (e : G.IE), G.xc C Gl D fx L (G.IS.ret e) x = G.Out.bind (G.ev C Gl D e x) fun (r : G.R) (e1 : G.Env) => G.retR fx r e1 := @G.xc.eq_7
@[simp] theorem s_xc_8 : ∀ (C : Nat → List G.Iv → G.Res) (Gl : Nat → G.T) (D : Nat → Nat → List G.T) (fx : Nat → Bool) (L : Nat) (x : G.Env), G.xc C Gl D fx L G.IS.retN x = G.Out.ok (G.Sg.ret (G.Iv.val G.T.non)) x := @G.xc.eq_8
@[simp] theorem s_xc_9 : ∀ (C : Nat → List G.Iv → G.Res) (Gl : Nat → G.T) (D : Nat → Nat → List G.T) (fx : Nat → Bool) (L : Nat) (x : G.Env), G.xc C Gl D fx L G.IS.pass x = G.Out.ok G.Sg.nxt x := @G.xc.eq_9
@[simp] theorem s_xc_10 : ∀ (C : Nat → List G.Iv → G.Res) (Gl : Nat → G.T) (D : Nat → Nat → List G.T) (fx : Nat → Bool) (L : Nat) (x : G.Env), G.xc C Gl D fx L G.IS.brk x = G.Out.ok G.Sg.brk x := @G.xc.eq_10
@[simp] theorem s_xc_11 : ∀ (C : Nat → List G.Iv → G.Res) (Gl : Nat → G.T) (D : Nat → Nat → List G.T) (fx : Nat → Bool) (L : Nat) (x : G.Env), G.xc C Gl D fx L G.IS.cont x = G.Out.ok G.Sg.cnt x := @G.xc.eq_11
@[simp] theorem s_xc_12 : ∀ (C : Nat → List G.Iv → G.Res) (Gl : Nat → G.T) (D : Nat → Nat → List G.T) (fx : Nat → Bool) (L : Nat) (x : G.Env) (c : G.IB) (a b : G.ISs), G.xc C Gl D fx L (G.IS.ite c a b) x = G.Out.bind (G.evT C Gl D c x) fun (k : Bool) (e1 : G.Env) => if k = Bool.true then G.xcs C Gl D fx L a e1 else G.xcs C Gl D fx L b e1 := @G.xc.eq_12
@[simp] theorem s_xc_15 : ∀ (C : Nat → List G.Iv → G.Res) (Gl : Nat → G.T) (D : Nat → Nat → List G.T) (fx : Nat → Bool) (L : Nat) (x : G.Env) (n : String) (msg : PySem.Str), G.xc C Gl D fx L (G.IS.raise n msg) x = G.Out.exc (G.Xv.blt n) x := @G.xc.eq_15
@[simp] theorem s_xc_16 : ∀ (C : Nat → List G.Iv → G.Res) (Gl : Nat → G.T) (D : Nat → Nat → List G.T) (fx : Nat → Bool) (L : Nat) (x : G.Env) (body : G.ISs) (n : String) (suite : G.ISs),
  G.xc C Gl D fx L (G.IS.try body n suite) x =
    match G.xcs C Gl D fx L body x with
    | G.Out.exc (G.Xv.blt m) e => if m = n then G.noexc (G.xcs C Gl D fx L suite e) else G.Out.stuck
    | o => o := @G.xc.eq_16
@[simp] theorem s_xcs_1 : ∀ (C : Nat → List G.Iv → G.Res) (Gl : Nat → G.T) (D : Nat → Nat → List G.T) (fx : Nat → Bool) (L : Nat) (x : G.Env), G.xcs C Gl D fx L G.ISs.nil x = G.Out.ok G.Sg.nxt x := @G.xcs.eq_1
@[simp] theorem s_xcs_2 : ∀ (C : Nat → List G.Iv → G.Res) (Gl : Nat → G.T) (D : Nat → Nat → List G.T) (fx : Nat → Bool) (L : Nat) (x : G.Env) (s : G.IS) (ss : G.ISs),
  G.xcs C Gl D fx L (G.ISs.cons s ss) x =
    G.Out.bind (G.xc C Gl D fx L s x) fun (g : G.Sg) (e1 : G.Env) =>
      match g with
      | G.Sg.nxt => G.xcs C Gl D fx L ss e1
      | g => G.Out.ok g e1 := @G.xcs.eq_2
@[simp] theorem s_lookT_1 : ∀ (env : G.Env) (r : G.R), G.lookT env r = Option.map G.toT (G.look env r) := @G.lookT.eq_1
@[simp] theorem s_look_1 : ∀ (env : G.Env) (t : G.T), G.look env (G.R.val t) = Option.some (G.Iv.val t) := @G.look.eq_1
@[simp] theorem s_look_2 : ∀ (env : G.Env) (o : G.Ow), G.look env (G.R.new o) = Option.some (G.Iv.own o) := @G.look.eq_2
@[simp] theorem s_look_3 : ∀ (env : G.Env) (i : Nat),
  G.look env (G.R.loan i) =
    match env[i]? with
    | Option.some x => x
    | Option.none => Option.none := @G.look.eq_3
@[simp] theorem s_looks_1 : ∀ (env : G.Env), G.looks env [] = Option.some [] := @G.looks.eq_1
@[simp] theorem s_looks_2 : ∀ (env : G.Env) (r : G.R) (rs : List G.R),
  G.looks env (r :: rs) =
    match G.lookT env r, G.looks env rs with
    | Option.some t, Option.some ts => Option.some (t :: ts)
    | x, x_1 => Option.none := @G.looks.eq_2
@[simp] theorem s_esc_1 : ∀ (env : G.Env) (t : G.T), G.esc env (G.R.val t) = Option.some t := @G.esc.eq_1
@[simp] theorem s_esc_2 : ∀ (env : G.Env) (o : G.Ow), G.esc env (G.R.new o) = Option.some (G.frz o) := @G.esc.eq_2
@[simp] theorem s_esc_3 : ∀ (env : G.Env) (i : Nat),
  G.esc env (G.R.loan i) =
    match env[i]? with
    | Option.some (Option.some (G.Iv.val t)) => Option.some t
    | x => Option.none := @G.esc.eq_3
@[simp] theorem s_escs_1 : ∀ (env : G.Env), G.escs env [] = Option.some [] := @G.escs.eq_1
@[simp] theorem s_escs_2 : ∀ (env : G.Env) (r : G.R) (rs : List G.R),
  G.escs env (r :: rs) =
    match G.esc env r, G.escs env rs with
    | Option.some t, Option.some ts => Option.some (t :: ts)
    | x, x_1 => Option.none := @G.escs.eq_2
@[simp] theorem s_toT_1 : ∀ (t : G.T), G.toT (G.Iv.val t) = t := @G.toT.eq_1
@[simp] theorem s_toT_2 : ∀ (o : G.Ow), G.toT (G.Iv.own o) = G.frz o := @G.toT.eq_2
@[simp] theorem s_toT_3 : ∀ (o : G.Ow), G.toT (G.Iv.lck o) = G.frz o := @G.toT.eq_3
@[simp] theorem s_frz_1 : ∀ (xs : List G.T), G.frz (G.Ow.lst xs) = G.T.lst xs := @G.frz.eq_1
@[simp] theorem s_frz_2 : ∀ (kvs : List (L2.Key × G.T)), G.frz (G.Ow.dic kvs) = G.T.dic kvs := @G.frz.eq_2
@[simp] theorem s_asgR_1 : ∀ (fx : Nat → Bool) (i : Nat) (env : G.Env) (t : G.T), G.asgR fx i (G.R.val t) env = if i < List.length env ∧ fx i = Bool.false then G.Out.ok G.Sg.nxt (List.set env i (Option.some (G.Iv.val t))) else G.Out.stuck := @G.asgR.eq_1
@[simp] theorem s_asgR_2 : ∀ (fx : Nat → Bool) (i : Nat) (env : G.Env) (o : G.Ow), G.asgR fx i (G.R.new o) env = if i < List.length env ∧ fx i = Bool.false then G.Out.ok G.Sg.nxt (List.set env i (Option.some (G.Iv.own o))) else G.Out.stuck := @G.asgR.eq_2
@[simp] theorem s_asgR_3 : ∀ (fx : Nat → Bool) (i : Nat) (env : G.Env) (i_1 : Nat), G.asgR fx i (G.R.loan i_1) env = if i < List.length env ∧ fx i = Bool.false then G.Out.stuck else G.Out.stuck := @G.asgR.eq_3
@[simp] theorem s_retR_1 : ∀ (fx : Nat → Bool) (env : G.Env) (t : G.T), G.retR fx (G.R.val t) env = G.Out.ok (G.Sg.ret (G.Iv.val t)) env := @G.retR.eq_1
@[simp] theorem s_retR_2 : ∀ (fx : Nat → Bool) (env : G.Env) (o : G.Ow), G.retR fx (G.R.new o) env = G.Out.ok (G.Sg.ret (G.Iv.own o)) env := @G.retR.eq_2
@[simp] theorem s_retR_3 : ∀ (fx : Nat → Bool) (env : G.Env) (i : Nat),
  G.retR fx (G.R.loan i) env =
    match env[i]? with
    | Option.some (Option.some (G.Iv.val t)) => G.Out.ok (G.Sg.ret (G.Iv.val t)) env
    | Option.some (Option.some (G.Iv.own o)) => if fx i = Bool.true then G.Out.stuck else G.Out.ok (G.Sg.ret (G.Iv.own o)) (List.set env i Option.none)
    | x => G.Out.stuck := @G.retR.eq_3
@[simp] theorem s_setixR_1 : ∀ (c : Nat) (ix v : G.T) (env : G.Env),
  G.setixR c ix v env =
    match env[c]? with
    | Option.some (Option.some (G.Iv.own (G.Ow.lst xs))) =>
      match ix with
      | G.T.int k =>
        match L2.ixN (List.length xs) k with
        | Option.some j => G.Out.ok G.Sg.nxt (List.set env c (Option.some (G.Iv.own (G.Ow.lst (List.set xs j v)))))
        | Option.none => G.Out.stuck
      | x => G.Out.stuck
    | Option.some (Option.some (G.Iv.own (G.Ow.dic kvs))) =>
      match G.keyT ix with
      | Option.some k => if List.length kvs < PySem.sizeLine then G.Out.ok G.Sg.nxt (List.set env c (Option.some (G.Iv.own (G.Ow.dic (G.putT kvs k v))))) else G.Out.stuck
      | Option.none => G.Out.stuck
    | x => G.Out.stuck := @G.setixR.eq_1
@[simp] theorem s_mutR_1 : ∀ (m : G.Mu) (c : Nat) (ts : List G.T) (env : G.Env),
  G.mutR m c ts env =
    match env[c]? with
    | Option.some (Option.some (G.Iv.own (G.Ow.lst xs))) =>
      match m, ts with
      | G.Mu.append, [t] => if List.length xs < PySem.sizeLine then G.Out.ok G.Sg.nxt (List.set env c (Option.some (G.Iv.own (G.Ow.lst (xs ++ [t]))))) else G.Out.stuck
      | G.Mu.insert, [G.T.int i, t] => if List.length xs < PySem.sizeLine ∧ 0 ≤ i ∧ i < 2 ^ 63 then G.Out.ok G.Sg.nxt (List.set env c (Option.some (G.Iv.own (G.Ow.lst (List.take (Int.toNat i) xs ++ [t] ++ List.drop (Int.toNat i) xs))))) else G.Out.stuck
      | G.Mu.extend, [G.T.lst ys] => if List.length xs + List.length ys ≤ PySem.sizeLine then G.Out.ok G.Sg.nxt (List.set env c (Option.some (G.Iv.own (G.Ow.lst (xs ++ ys))))) else G.Out.stuck
      | G.Mu.pop, [] =>
        match xs[List.length xs - 1]? with
        | Option.some val => G.Out.ok G.Sg.nxt (List.set env c (Option.some (G.Iv.own (G.Ow.lst (List.dropLast xs)))))
        | Option.none => G.Out.stuck
      | x, x_1 => G.Out.stuck
    | x => G.Out.stuck := @G.mutR.eq_1
@[simp] theorem s_isO_1 : ∀ (env : G.Env) (c : Nat),
  G.isO env c =
    match env[c]? with
    | Option.some (Option.some (G.Iv.own o)) => Bool.true
    | x => Bool.false := @G.isO.eq_1
@[simp] theorem s_isL_1 : ∀ (env : G.Env) (c : Nat),
  G.isL env c =
    match env[c]? with
    | Option.some (Option.some (G.Iv.own (G.Ow.lst xs))) => Bool.true
    | x => Bool.false := @G.isL.eq_1
@[simp] theorem s_argsOf_1 : ∀ (env : G.Env), G.argsOf env [] = Option.some [] := @G.argsOf.eq_1
@[simp] theorem s_argsOf_2 : ∀ (env : G.Env) (r : G.R) (rs : List G.R),
  G.argsOf env (r :: rs) =
    match G.look env r, G.argsOf env rs with
    | Option.some t, Option.some ts => Option.some (t :: ts)
    | x, x_1 => Option.none := @G.argsOf.eq_2
@[simp] theorem s_lent_1 : ∀ (env : G.Env), G.lent env [] = [] := @G.lent.eq_1
@[simp] theorem s_lent_2 : ∀ (env : G.Env) (i : Nat) (rs : List G.R),
  G.lent env (G.R.loan i :: rs) =
    match env[i]? with
    | Option.some (Option.some (G.Iv.val t)) => G.lent env rs
    | x => i :: G.lent env rs := @G.lent.eq_2
@[simp] theorem s_lent_3 : ∀ (env : G.Env) (head : G.R) (rs : List G.R), (∀ (i : Nat), head = G.R.loan i → False) → G.lent env (head :: rs) = G.lent env rs := @G.lent.eq_3
@[simp] theorem s_back_1 : ∀ (env : G.Env) (i : Nat) (rs : List G.R) (o : G.Iv) (os : List G.Iv),
  G.back env (G.R.loan i :: rs) (o :: os) =
    G.back
      (match env[i]? with
      | Option.some (Option.some (G.Iv.own o_1)) => List.set env i (Option.some o)
      | x => env)
      rs os := @G.back.eq_1
@[simp] theorem s_back_2 : ∀ (env : G.Env) (head : G.R) (rs : List G.R) (head_1 : G.Iv) (os : List G.Iv), (∀ (i : Nat), head = G.R.loan i → False) → G.back env (head :: rs) (head_1 :: os) = G.back env rs os := @G.back.eq_2
@[simp] theorem s_back_3 : ∀ (env : G.Env) (x : List G.R) (x_1 : List G.Iv), (∀ (i : Nat) (rs : List G.R) (o : G.Iv) (os : List G.Iv), x = G.R.loan i :: rs → x_1 = o :: os → False) → (∀ (head : G.R) (rs : List G.R) (head_1 : G.Iv) (os : List G.Iv), x = head :: rs → x_1 = head_1 :: os → False) → G.back env x x_1 = env := @G.back.eq_3
@[simp] theorem s_ivR_1 : ∀ (t : G.T), G.ivR (G.Iv.val t) = Option.some (G.R.val t) := @G.ivR.eq_1
@[simp] theorem s_ivR_2 : ∀ (o : G.Ow), G.ivR (G.Iv.own o) = Option.some (G.R.new o) := @G.ivR.eq_2
@[simp] theorem s_ivR_3 : ∀ (o : G.Ow), G.ivR (G.Iv.lck o) = Option.none := @G.ivR.eq_3
@[simp] theorem s_callR_1 : ∀ (C : Nat → List G.Iv → G.Res) (f : Nat) (dfl : List G.T) (env : G.Env) (rs : List G.R),
  G.callR C f dfl env rs =
    match G.argsOf env rs with
    | Option.none => G.Out.stuck
    | Option.some ivs =>
      if List.Nodup (G.lent env rs) then
        match C f (ivs ++ List.map G.Iv.val dfl) with
        | G.Res.ok r outs =>
          match G.ivR r with
          | Option.some r => G.Out.ok r (G.back env rs outs)
          | Option.none => G.Out.stuck
        | G.Res.exc x outs => G.Out.exc x (G.back env rs outs)
        | G.Res.stuck => G.Out.stuck
      else G.Out.stuck := @G.callR.eq_1
@[simp] theorem s_binR_1 : ∀ (x y : G.T), G.binR PySem.Operator.Add x y = G.addR x y := @G.binR.eq_1
@[simp] theorem s_binR_2 : ∀ (i j : Int), G.binR PySem.Operator.Sub (G.T.int i) (G.T.int j) = Option.some (G.Rv.val (G.T.int (i - j))) := @G.binR.eq_2
@[simp] theorem s_binR_3 : ∀ (i j : Int), G.binR PySem.Operator.Mult (G.T.int i) (G.T.int j) = if G.mulOk i j = Bool.true then Option.some (G.Rv.val (G.T.int (i * j))) else Option.none := @G.binR.eq_3
@[simp] theorem s_binR_4 : ∀ (i j : Int), G.binR PySem.Operator.FloorDiv (G.T.int i) (G.T.int j) = if 0 < j ∧ Nat.log2 (Int.natAbs j) < 9000 then Option.some (G.Rv.val (G.T.int (i / j))) else if j ≠ 0 ∧ Int.natAbs j < 1073741824 then Option.some (G.Rv.val (G.T.int (Int.fdiv i j))) else Option.none := @G.binR.eq_4
@[simp] theorem s_binR_5 : ∀ (i j : Int), G.binR PySem.Operator.Mod (G.T.int i) (G.T.int j) = if 0 < j then Option.some (G.Rv.val (G.T.int (i % j))) else if j ≠ 0 then Option.some (G.Rv.val (G.T.int (Int.fmod i j))) else Option.none := @G.binR.eq_5
@[simp] theorem s_binR_6 : ∀ (i j : Int), G.binR PySem.Operator.Pow (G.T.int i) (G.T.int j) = if 0 ≤ j ∧ j ≤ 1000000 ∧ Int.natAbs i < 2 ^ 64 then Option.some (G.Rv.val (G.T.int (i ^ Int.toNat j))) else Option.none := @G.binR.eq_6
@[simp] theorem s_binR_7 : ∀ (op : PySem.Operator) (x y : G.T), (op = PySem.Operator.Add → False) → (∀ (i j : Int), op = PySem.Operator.Sub → x = G.T.int i → y = G.T.int j → False) → (∀ (i j : Int), op = PySem.Operator.Mult → x = G.T.int i → y = G.T.int j → False) → (∀ (i j : Int), op = PySem.Operator.FloorDiv → x = G.T.int i → y = G.T.int j → False) → (∀ (i j : Int), op = PySem.Operator.Mod → x = G.T.int i → y = G.T.int j → False) → (∀ (i j : Int), op = PySem.Operator.Pow → x = G.T.int i → y = G.T.int j → False) → G.binR op x y = Option.none := @G.binR.eq_7
@[simp] theorem s_addR_1 : ∀ (i j : Int), G.addR (G.T.int i) (G.T.int j) = Option.some (G.Rv.val (G.T.int (i + j))) := @G.addR.eq_1
@[simp] theorem s_addR_2 : ∀ (i j : PySem.Str), G.addR (G.T.str i) (G.T.str j) = if PySem.Str.length i + PySem.Str.length j ≤ PySem.sizeLine then Option.some (G.Rv.val (G.T.str (i ++ j))) else Option.none := @G.addR.eq_2
@[simp] theorem s_addR_3 : ∀ (a b : List G.T), G.addR (G.T.tup a) (G.T.tup b) = if List.length a + List.length b ≤ PySem.sizeLine then Option.some (G.Rv.tup (a ++ b)) else Option.none := @G.addR.eq_3
@[simp] theorem s_addR_4 : ∀ (a b : List G.T), G.addR (G.T.lst a) (G.T.lst b) = if List.length a + List.length b ≤ PySem.sizeLine then Option.some (G.Rv.lst (a ++ b)) else Option.none := @G.addR.eq_4
@[simp] theorem s_addR_5 : ∀ (x y : G.T), (∀ (i j : Int), x = G.T.int i → y = G.T.int j → False) → (∀ (i j : PySem.Str), x = G.T.str i → y = G.T.str j → False) → (∀ (a b : List G.T), x = G.T.tup a → y = G.T.tup b → False) → (∀ (a b : List G.T), x = G.T.lst a → y = G.T.lst b → False) → G.addR x y = Option.none := @G.addR.eq_5
@[simp] theorem s_cmpR_1 : ∀ (x y : G.T), G.cmpR PySem.CmpOp.Eq x y = G.eqR x y := @G.cmpR.eq_1
@[simp] theorem s_cmpR_2 : ∀ (x y : G.T), G.cmpR PySem.CmpOp.NotEq x y = Option.map Bool.not (G.eqR x y) := @G.cmpR.eq_2
@[simp] theorem s_cmpR_3 : ∀ (x y : G.T), G.cmpR PySem.CmpOp.In x y = G.inR x y := @G.cmpR.eq_3
@[simp] theorem s_cmpR_4 : ∀ (x y : G.T), G.cmpR PySem.CmpOp.NotIn x y = Option.map Bool.not (G.inR x y) := @G.cmpR.eq_4
@[simp] theorem s_cmpR_5 : G.cmpR PySem.CmpOp.Is G.T.non G.T.non = Option.some Bool.true := @G.cmpR.eq_5
@[simp] theorem s_cmpR_6 : ∀ (x : G.T), (x = G.T.non → False) → G.cmpR PySem.CmpOp.Is x G.T.non = Option.some Bool.false := @G.cmpR.eq_6
@[simp] theorem s_cmpR_7 : ∀ (x y : G.T), (y = G.T.non → False) → G.cmpR PySem.CmpOp.Is x y = Option.none := @G.cmpR.eq_7
@[simp] theorem s_cmpR_8 : G.cmpR PySem.CmpOp.IsNot G.T.non G.T.non = Option.some Bool.false := @G.cmpR.eq_8
@[simp] theorem s_cmpR_9 : ∀ (x : G.T), (x = G.T.non → False) → G.cmpR PySem.CmpOp.IsNot x G.T.non = Option.some Bool.true := @G.cmpR.eq_9
@[simp] theorem s_cmpR_10 : ∀ (x y : G.T), (y = G.T.non → False) → G.cmpR PySem.CmpOp.IsNot x y = Option.none := @G.cmpR.eq_10
@[simp] theorem s_cmpR_11 : ∀ (op : PySem.CmpOp) (x y : G.T), (op = PySem.CmpOp.Eq → False) → (op = PySem.CmpOp.NotEq → False) → (op = PySem.CmpOp.In → False) → (op = PySem.CmpOp.NotIn → False) → (op = PySem.CmpOp.Is → False) → (op = PySem.CmpOp.IsNot → False) → G.cmpR op x y = G.ordR op x y := @G.cmpR.eq_11
@[simp] theorem s_ordR_1 : ∀ (i j : Int), G.ordR PySem.CmpOp.Lt (G.T.int i) (G.T.int j) = Option.some (Decidable.decide (i < j)) := @G.ordR.eq_1
@[simp] theorem s_ordR_2 : ∀ (i j : Int), G.ordR PySem.CmpOp.LtE (G.T.int i) (G.T.int j) = Option.some (Decidable.decide (i ≤ j)) := @G.ordR.eq_2
@[simp] theorem s_ordR_3 : ∀ (i j : Int), G.ordR PySem.CmpOp.Gt (G.T.int i) (G.T.int j) = Option.some (Decidable.decide (j < i)) := @G.ordR.eq_3
@[simp] theorem s_ordR_4 : ∀ (i j : Int), G.ordR PySem.CmpOp.GtE (G.T.int i) (G.T.int j) = Option.some (Decidable.decide (j ≤ i)) := @G.ordR.eq_4
@[simp] theorem s_ordR_5 : ∀ (i j : PySem.Str), G.ordR PySem.CmpOp.Lt (G.T.str i) (G.T.str j) = Option.some (Decidable.decide (Array.toList (PySem.Str.cps i) < Array.toList (PySem.Str.cps j))) := @G.ordR.eq_5
@[simp] theorem s_ordR_6 : ∀ (i j : PySem.Str), G.ordR PySem.CmpOp.LtE (G.T.str i) (G.T.str j) = Option.some !Decidable.decide (Array.toList (PySem.Str.cps j) < Array.toList (PySem.Str.cps i)) := @G.ordR.eq_6
@[simp] theorem s_ordR_7 : ∀ (i j : PySem.Str), G.ordR PySem.CmpOp.Gt (G.T.str i) (G.T.str j) = Option.some (Decidable.decide (Array.toList (PySem.Str.cps j) < Array.toList (PySem.Str.cps i))) := @G.ordR.eq_7
@[simp] theorem s_ordR_8 : ∀ (i j : PySem.Str), G.ordR PySem.CmpOp.GtE (G.T.str i) (G.T.str j) = Option.some !Decidable.decide (Array.toList (PySem.Str.cps i) < Array.toList (PySem.Str.cps j)) := @G.ordR.eq_8
@[simp] theorem s_ordR_9 : ∀ (op : PySem.CmpOp) (x y : G.T), (∀ (i j : Int), op = PySem.CmpOp.Lt → x = G.T.int i → y = G.T.int j → False) → (∀ (i j : Int), op = PySem.CmpOp.LtE → x = G.T.int i → y = G.T.int j → False) → (∀ (i j : Int), op = PySem.CmpOp.Gt → x = G.T.int i → y = G.T.int j → False) → (∀ (i j : Int), op = PySem.CmpOp.GtE → x = G.T.int i → y = G.T.int j → False) → (∀ (i j : PySem.Str), op = PySem.CmpOp.Lt → x = G.T.str i → y = G.T.str j → False) → (∀ (i j : PySem.Str), op = PySem.CmpOp.LtE → x = G.T.str i → y = G.T.str j → False) → (∀ (i j : PySem.Str), op = PySem.CmpOp.Gt → x = G.T.str i → y = G.T.str j → False) → (∀ (i j : PySem.Str), op = PySem.CmpOp.GtE → x = G.T.str i → y = G.T.str j → False) → G.ordR op x y = Option.none := @G.ordR.eq_9
@[simp] theorem s_ixR_1 : ∀ (xs : List G.T) (i : Int), G.ixR (G.T.lst xs) (G.T.int i) = L2.atI xs i := @G.ixR.eq_1
@[simp] theorem s_ixR_2 : ∀ (xs : List G.T) (i : Int), G.ixR (G.T.rlst xs) (G.T.int i) = L2.atI xs i := @G.ixR.eq_2
@[simp] theorem s_ixR_3 : ∀ (xs : List G.T) (i : Int), G.ixR (G.T.tup xs) (G.T.int i) = L2.atI xs i := @G.ixR.eq_3
@[simp] theorem s_ixR_4 : ∀ (z : PySem.Str) (i : Int), G.ixR (G.T.str z) (G.T.int i) = if PySem.Str.length z ≤ PySem.sizeLine then Option.map (fun (c : Nat) => G.T.str { cps := #[c] }) (L2.atI (Array.toList (PySem.Str.cps z)) i) else Option.none := @G.ixR.eq_4
@[simp] theorem s_ixR_5 : ∀ (y : G.T) (kts : List (L2.Key × G.T)),
  G.ixR (G.T.dic kts) y =
    match G.keyT y with
    | Option.some k => G.valT kts k
    | Option.none => Option.none := @G.ixR.eq_5
@[simp] theorem s_ixR_6 : ∀ (x y : G.T), (∀ (kts : List (L2.Key × G.T)), x = G.T.dic kts → False) → (∀ (xs : List G.T) (i : Int), x = G.T.lst xs → y = G.T.int i → False) → (∀ (xs : List G.T) (i : Int), x = G.T.rlst xs → y = G.T.int i → False) → (∀ (xs : List G.T) (i : Int), x = G.T.tup xs → y = G.T.int i → False) → (∀ (z : PySem.Str) (i : Int), x = G.T.str z → y = G.T.int i → False) → G.ixR x y = Option.none := @G.ixR.eq_6
@[simp] theorem s_truR_1 : G.truR G.T.non = Option.some Bool.false := @G.truR.eq_1
@[simp] theorem s_truR_2 : ∀ (b : Bool), G.truR (G.T.bl b) = Option.some b := @G.truR.eq_2
@[simp] theorem s_truR_3 : ∀ (i : Int), G.truR (G.T.int i) = Option.some (i != 0) := @G.truR.eq_3
@[simp] theorem s_truR_5 : ∀ (xs : List G.T), G.truR (G.T.lst xs) = Option.some !List.isEmpty xs := @G.truR.eq_5
@[simp] theorem s_truR_6 : ∀ (xs : List G.T), G.truR (G.T.rlst xs) = Option.some !List.isEmpty xs := @G.truR.eq_6
@[simp] theorem s_truR_7 : ∀ (xs : List G.T), G.truR (G.T.tup xs) = Option.some !List.isEmpty xs := @G.truR.eq_7
@[simp] theorem s_truR_8 : ∀ (kvs : List (L2.Key × G.T)), G.truR (G.T.dic kvs) = Option.none := @G.truR.eq_8
@[simp] theorem s_lenR_1 : ∀ (y : PySem.Str), G.lenR (G.T.str y) = if PySem.Str.length y ≤ PySem.sizeLine then Option.some ↑(PySem.Str.length y) else Option.none := @G.lenR.eq_1
@[simp] theorem s_lenR_2 : ∀ (xs : List G.T), G.lenR (G.T.lst xs) = Option.some ↑(List.length xs) := @G.lenR.eq_2
@[simp] theorem s_lenR_3 : ∀ (xs : List G.T), G.lenR (G.T.rlst xs) = Option.some ↑(List.length xs) := @G.lenR.eq_3
@[simp] theorem s_lenR_4 : ∀ (xs : List G.T), G.lenR (G.T.tup xs) = Option.some ↑(List.length xs) := @G.lenR.eq_4
@[simp] theorem s_lenR_5 : ∀ (x : G.T), (∀ (y : PySem.Str), x = G.T.str y → False) → (∀ (xs : List G.T), x = G.T.lst xs → False) → (∀ (xs : List G.T), x = G.T.rlst xs → False) → (∀ (xs : List G.T), x = G.T.tup xs → False) → G.lenR x = Option.none := @G.lenR.eq_5
@[simp] theorem s_rvR_1 : ∀ (t : G.T), G.rvR (G.Rv.val t) = G.R.val t := @G.rvR.eq_1
@[simp] theorem s_rvR_2 : ∀ (xs : List G.T), G.rvR (G.Rv.lst xs) = G.R.new (G.Ow.lst xs) := @G.rvR.eq_2
@[simp] theorem s_rvR_3 : ∀ (xs : List G.T), G.rvR (G.Rv.tup xs) = G.R.val (G.T.tup xs) := @G.rvR.eq_3
@[simp] theorem s_biR_1 : ∀ (t : G.T), G.biR G.BI.len [t] = Option.map (fun (n : Int) => G.Rv.val (G.T.int n)) (G.lenR t) := @G.biR.eq_1
@[simp] theorem s_biR_2 : ∀ (i : Int), G.biR G.BI.int [G.T.int i] = Option.some (G.Rv.val (G.T.int i)) := @G.biR.eq_2
@[simp] theorem s_biR_3 : ∀ (b_2 : Bool), G.biR G.BI.int [G.T.bl b_2] = Option.some (G.Rv.val (G.T.int (if b_2 = Bool.true then 1 else 0))) := @G.biR.eq_3
@[simp] theorem s_biR_4 : ∀ (i : Int), G.biR G.BI.bool [G.T.int i] = Option.some (G.Rv.val (G.T.bl (i != 0))) := @G.biR.eq_4
@[simp] theorem s_biR_5 : ∀ (b_2 : Bool), G.biR G.BI.bool [G.T.bl b_2] = Option.some (G.Rv.val (G.T.bl b_2)) := @G.biR.eq_5
@[simp] theorem s_biR_6 : ∀ (i : Int), G.biR G.BI.abs [G.T.int i] = Option.some (G.Rv.val (G.T.int (if i < 0 then -i else i))) := @G.biR.eq_6
@[simp] theorem s_biR_7 : ∀ (i : Int), G.biR G.BI.str [G.T.int i] = if Nat.log2 (Int.natAbs i) < 1920 then Option.some (G.Rv.val (G.T.str (PySem.Str.ofString (ToString.toString i)))) else Option.none := @G.biR.eq_7
@[simp] theorem s_biR_8 : ∀ (i j : Int), G.biR G.BI.max2 [G.T.int i, G.T.int j] = Option.some (G.Rv.val (G.T.int (if j > i then j else i))) := @G.biR.eq_8
@[simp] theorem s_biR_9 : ∀ (i j : Int), G.biR G.BI.min2 [G.T.int i, G.T.int j] = Option.some (G.Rv.val (G.T.int (if j < i then j else i))) := @G.biR.eq_9
@[simp] theorem s_biR_10 : ∀ (t : G.T), G.biR G.BI.list [t] = Option.map G.Rv.lst (G.seqA t) := @G.biR.eq_10
@[simp] theorem s_biR_11 : ∀ (xs : List G.T), G.biR G.BI.tuple [G.T.tup xs] = Option.some (G.Rv.val (G.T.tup xs)) := @G.biR.eq_11
@[simp] theorem s_biR_12 : ∀ (t : G.T), (∀ (xs : List G.T), t = G.T.tup xs → False) → G.biR G.BI.tuple [t] = Option.map G.Rv.tup (G.seqL t) := @G.biR.eq_12
@[simp] theorem s_biR_13 : ∀ (t : G.T), G.biR G.BI.all [t] = Option.map (fun (bs : List Bool) => G.Rv.val (G.T.bl (List.all bs id))) (Option.bind (G.seqL t) G.blsT) := @G.biR.eq_13
@[simp] theorem s_biR_14 : ∀ (t : G.T), G.biR G.BI.sum [t] = Option.map (fun (bs : List Int) => G.Rv.val (G.T.int (List.sum bs))) (Option.bind (G.seqL t) G.intsT) := @G.biR.eq_14
@[simp] theorem s_biR_15 : ∀ (i j : Int), G.biR G.BI.gcd [G.T.int i, G.T.int j] = Option.some (G.Rv.val (G.T.int ↑(Nat.gcd (Int.natAbs i) (Int.natAbs j)))) := @G.biR.eq_15
@[simp] theorem s_biR_16 : ∀ (t : G.T), G.biR G.BI.sortedS [t] = Option.bind (Option.bind (G.seqL t) G.strsT) fun (ss : List PySem.Str) => if List.length ss < 64 then Option.some (G.Rv.lst (List.map G.T.str (G.sortS ss))) else Option.none := @G.biR.eq_16
@[simp] theorem s_biR_17 : ∀ (t : G.T), G.biR G.BI.sortedI [t] = Option.bind (Option.bind (G.seqL t) G.intsT) fun (ss : List Int) => if List.length ss < 64 then Option.some (G.Rv.lst (List.map G.T.int (G.sortI ss))) else Option.none := @G.biR.eq_17
@[simp] theorem s_biR_18 : ∀ (t : G.T),
  G.biR G.BI.sorted [t] =
    match Option.bind (G.seqL t) G.strsT with
    | Option.some ss => if List.length ss < 64 then Option.some (G.Rv.lst (List.map G.T.str (G.sortS ss))) else Option.none
    | Option.none => Option.bind (Option.bind (G.seqL t) G.intsT) fun (ss : List Int) => if List.length ss < 64 then Option.some (G.Rv.lst (List.map G.T.int (G.sortI ss))) else Option.none := @G.biR.eq_18
@[simp] theorem s_biR_19 : ∀ (t : G.T), G.biR G.BI.repr [t] = Option.map (fun (s : PySem.Str) => G.Rv.val (G.T.str s)) (G.reprT t) := @G.biR.eq_19
@[simp] theorem s_biR_20 : ∀ (b : G.BI) (ts : List G.T), (∀ (t : G.T), b = G.BI.len → ts = [t] → False) → (∀ (i : Int), b = G.BI.int → ts = [G.T.int i] → False) → (∀ (b_1 : Bool), b = G.BI.int → ts = [G.T.bl b_1] → False) → (∀ (i : Int), b = G.BI.bool → ts = [G.T.int i] → False) → (∀ (b_1 : Bool), b = G.BI.bool → ts = [G.T.bl b_1] → False) → (∀ (i : Int), b = G.BI.abs → ts = [G.T.int i] → False) → (∀ (i : Int), b = G.BI.str → ts = [G.T.int i] → False) → (∀ (i j : Int), b = G.BI.max2 → ts = [G.T.int i, G.T.int j] → False) → (∀ (i j : Int), b = G.BI.min2 → ts = [G.T.int i, G.T.int j] → False) → (∀ (t : G.T), b = G.BI.list → ts = [t] → False) → (∀ (xs : List G.T), b = G.BI.tuple → ts = [G.T.tup xs] → False) → (∀ (t : G.T), b = G.BI.tuple → ts = [t] → False) → (∀ (t : G.T), b = G.BI.all → ts = [t] → False) → (∀ (t : G.T), b = G.BI.sum → ts = [t] → False) → (∀ (i j : Int), b = G.BI.gcd → ts = [G.T.int i, G.T.int j] → False) → (∀ (t : G.T), b = G.BI.sortedS → ts = [t] → False) → (∀ (t : G.T), b = G.BI.sortedI → ts = [t] → False) → (∀ (t : G.T), b = G.BI.sorted → ts = [t] → False) → (∀ (t : G.T), b = G.BI.repr → ts = [t] → False) → G.biR b ts = Option.none := @G.biR.eq_20
@[simp] theorem s_resOf_1 : ∀ (ivs : List G.Iv) (e : G.Env),
  G.resOf ivs (G.Out.ok G.Sg.nxt e) =
    match G.outsOf ivs e with
    | Option.some o => G.Res.ok (G.Iv.val G.T.non) o
    | Option.none => G.Res.stuck := @G.resOf.eq_1
@[simp] theorem s_resOf_2 : ∀ (ivs : List G.Iv) (iv : G.Iv) (e : G.Env),
  G.resOf ivs (G.Out.ok (G.Sg.ret iv) e) =
    match G.outsOf ivs e with
    | Option.some o => G.Res.ok iv o
    | Option.none => G.Res.stuck := @G.resOf.eq_2
@[simp] theorem s_resOf_3 : ∀ (ivs : List G.Iv) (x_1 : G.Xv) (e : G.Env),
  G.resOf ivs (G.Out.exc x_1 e) =
    match G.outsOf ivs e with
    | Option.some o => G.Res.exc x_1 o
    | Option.none => G.Res.stuck := @G.resOf.eq_3
@[simp] theorem s_resOf_4 : ∀ (ivs : List G.Iv) (x : G.Out G.Sg), (∀ (e : G.Env), x = G.Out.ok G.Sg.nxt e → False) → (∀ (iv : G.Iv) (e : G.Env), x = G.Out.ok (G.Sg.ret iv) e → False) → (∀ (x_1 : G.Xv) (e : G.Env), x = G.Out.exc x_1 e → False) → G.resOf ivs x = G.Res.stuck := @G.resOf.eq_4
@[simp] theorem s_outsOf_1 : ∀ (x : G.Env), G.outsOf [] x = Option.some [] := @G.outsOf.eq_1
@[simp] theorem s_outsOf_2 : ∀ (t : G.T) (ivs : List G.Iv) (head : Option G.Iv) (env : List (Option G.Iv)), G.outsOf (G.Iv.val t :: ivs) (head :: env) = Option.map (fun (x : List G.Iv) => G.Iv.val t :: x) (G.outsOf ivs env) := @G.outsOf.eq_2
@[simp] theorem s_outsOf_3 : ∀ (o : G.Ow) (ivs : List G.Iv) (iv : G.Iv) (env : List (Option G.Iv)), G.outsOf (G.Iv.own o :: ivs) (Option.some iv :: env) = Option.map (fun (x : List G.Iv) => iv :: x) (G.outsOf ivs env) := @G.outsOf.eq_3
@[simp] theorem s_outsOf_4 : ∀ (o : G.Ow) (ivs : List G.Iv) (iv : G.Iv) (env : List (Option G.Iv)), G.outsOf (G.Iv.lck o :: ivs) (Option.some iv :: env) = Option.map (fun (x : List G.Iv) => iv :: x) (G.outsOf ivs env) := @G.outsOf.eq_4
@[simp] theorem s_outsOf_5 : ∀ (x : G.Env) (head : G.Iv) (tail : List G.Iv), (∀ (t : G.T) (head_1 : Option G.Iv) (env : List (Option G.Iv)), x = head_1 :: env → head = G.Iv.val t → False) → (∀ (o : G.Ow) (iv : G.Iv) (env : List (Option G.Iv)), x = Option.some iv :: env → head = G.Iv.own o → False) → (∀ (o : G.Ow) (iv : G.Iv) (env : List (Option G.Iv)), x = Option.some iv :: env → head = G.Iv.lck o → False) → G.outsOf (head :: tail) x = Option.none := @G.outsOf.eq_5
@[simp] theorem s_fxOf_1 : ∀ (ivs : List G.Iv) (i : Nat),
  G.fxOf ivs i =
    match ivs[i]? with
    | Option.some (G.Iv.own o) => Bool.true
    | Option.some (G.Iv.lck o) => Bool.true
    | x => Bool.false := @G.fxOf.eq_1
@[simp] theorem s_lockE_1 : ∀ (env : G.Env), G.lockE env Option.none = env := @G.lockE.eq_1
@[simp] theorem s_lockE_2 : ∀ (env : G.Env) (i : Nat),
  G.lockE env (Option.some i) =
    match env[i]? with
    | Option.some (Option.some (G.Iv.own (G.Ow.lst o))) => List.set env i (Option.some (G.Iv.lck (G.Ow.lst o)))
    | x => env := @G.lockE.eq_2
@[simp] theorem s_unlockE_1 : ∀ (env : G.Env), G.unlockE env Option.none = env := @G.unlockE.eq_1
@[simp] theorem s_unlockE_2 : ∀ (env : G.Env) (i : Nat),
  G.unlockE env (Option.some i) =
    match env[i]? with
    | Option.some (Option.some (G.Iv.lck (G.Ow.lst o))) => List.set env i (Option.some (G.Iv.own (G.Ow.lst o)))
    | x => env := @G.unlockE.eq_2
@[simp] theorem s_lockOf_1 : ∀ (env : G.Env) (i : Nat),
  G.lockOf env (G.R.loan i) =
    match env[i]? with
    | Option.some (Option.some (G.Iv.own (G.Ow.lst xs))) => Option.some i
    | x => Option.none := @G.lockOf.eq_1
@[simp] theorem s_lockOf_2 : ∀ (env : G.Env) (x : G.R), (∀ (i : Nat), x = G.R.loan i → False) → G.lockOf env x = Option.none := @G.lockOf.eq_2
@[simp] theorem s_seqI_1 : ∀ (xs : List G.T), G.seqI (G.T.lst xs) = Option.some xs := @G.seqI.eq_1
@[simp] theorem s_seqI_2 : ∀ (xs : List G.T), G.seqI (G.T.rlst xs) = Option.some xs := @G.seqI.eq_2
@[simp] theorem s_seqI_3 : ∀ (xs : List G.T), G.seqI (G.T.tup xs) = Option.some xs := @G.seqI.eq_3
@[simp] theorem s_seqI_4 : ∀ (z : PySem.Str), G.seqI (G.T.str z) = Option.some (List.map (fun (c : Nat) => G.T.str { cps := #[c] }) (Array.toList (PySem.Str.cps z))) := @G.seqI.eq_4
@[simp] theorem s_seqI_5 : ∀ (x : G.T), (∀ (xs : List G.T), x = G.T.lst xs → False) → (∀ (xs : List G.T), x = G.T.rlst xs → False) → (∀ (xs : List G.T), x = G.T.tup xs → False) → (∀ (z : PySem.Str), x = G.T.str z → False) → G.seqI x = Option.none := @G.seqI.eq_5
@[simp] theorem s_seqL_1 : ∀ (xs : List G.T), G.seqL (G.T.lst xs) = Option.some xs := @G.seqL.eq_1
@[simp] theorem s_seqL_2 : ∀ (xs : List G.T), G.seqL (G.T.rlst xs) = Option.some xs := @G.seqL.eq_2
@[simp] theorem s_seqL_3 : ∀ (x : G.T), (∀ (xs : List G.T), x = G.T.lst xs → False) → (∀ (xs : List G.T), x = G.T.rlst xs → False) → G.seqL x = Option.none := @G.seqL.eq_3
@[simp] theorem s_seqA_1 : ∀ (xs : List G.T), G.seqA (G.T.lst xs) = Option.some xs := @G.seqA.eq_1
@[simp] theorem s_seqA_2 : ∀ (xs : List G.T), G.seqA (G.T.rlst xs) = Option.some xs := @G.seqA.eq_2
@[simp] theorem s_seqA_3 : ∀ (xs : List G.T), G.seqA (G.T.tup xs) = Option.some xs := @G.seqA.eq_3
@[simp] theorem s_seqA_4 : ∀ (x : G.T), (∀ (xs : List G.T), x = G.T.lst xs → False) → (∀ (xs : List G.T), x = G.T.rlst xs → False) → (∀ (xs : List G.T), x = G.T.tup xs → False) → G.seqA x = Option.none := @G.seqA.eq_4
@[simp] theorem s_keyT_1 : ∀ (i : Int), G.keyT (G.T.int i) = Option.some (Sum.inl i) := @G.keyT.eq_1
@[simp] theorem s_keyT_2 : ∀ (s : PySem.Str), G.keyT (G.T.str s) = Option.some (Sum.inr s) := @G.keyT.eq_2
@[simp] theorem s_keyT_3 : ∀ (x : G.T), (∀ (i : Int), x = G.T.int i → False) → (∀ (s : PySem.Str), x = G.T.str s → False) → G.keyT x = Option.none := @G.keyT.eq_3
@[simp] theorem s_IEs_len_1 : G.IEs.len G.IEs.nil = 0 := @G.IEs.len.eq_1
@[simp] theorem s_IEs_len_2 : ∀ (e : G.IE) (es : G.IEs), G.IEs.len (G.IEs.cons e es) = G.IEs.len es + 1 := @G.IEs.len.eq_2
@[simp] theorem s_atI_1 : ∀ {α : Type} (xs : List α) (i : Int), L2.atI xs i = Option.bind (L2.ixN (List.length xs) i) fun (j : Nat) => xs[j]? := @L2.atI.eq_1
@[simp] theorem s_ixN_1 : ∀ (n : Nat) (i : Int), L2.ixN n i = if 0 ≤ i then if i < ↑n then Option.some (Int.toNat i) else Option.none else if -↑n ≤ i then Option.some (Int.toNat (i + ↑n)) else Option.none := @L2.ixN.eq_1
@[simp] theorem s_isinR_1 : ∀ (t : G.T) (tys : List String), G.isinR t tys = List.any tys fun (n : String) => n == G.tyName t || G.tyName t == "bool" && n == "int" := @G.isinR.eq_1
@[simp] theorem s_tyName_1 : G.tyName G.T.non = "NoneType" := @G.tyName.eq_1
@[simp] theorem s_tyName_2 : ∀ (b : Bool), G.tyName (G.T.bl b) = "bool" := @G.tyName.eq_2
@[simp] theorem s_tyName_3 : ∀ (i : Int), G.tyName (G.T.int i) = "int" := @G.tyName.eq_3
@[simp] theorem s_tyName_4 : ∀ (s : PySem.Str), G.tyName (G.T.str s) = "str" := @G.tyName.eq_4
@[simp] theorem s_tyName_5 : ∀ (xs : List G.T), G.tyName (G.T.tup xs) = "tuple" := @G.tyName.eq_5
@[simp] theorem s_tyName_6 : ∀ (xs : List G.T), G.tyName (G.T.lst xs) = "list" := @G.tyName.eq_6
@[simp] theorem s_tyName_7 : ∀ (xs : List G.T), G.tyName (G.T.rlst xs) = "list" := @G.tyName.eq_7
@[simp] theorem s_tyName_8 : ∀ (kvs : List (L2.Key × G.T)), G.tyName (G.T.dic kvs) = "dict" := @G.tyName.eq_8
@[simp] theorem s_bindT_1 : ∀ (fx : Nat → Bool) (t : G.T) (env : G.Env) (a : Nat), G.bindT fx (G.Tgt.name a) t env = G.bindAll fx [a] [t] env := @G.bindT.eq_1
@[simp] theorem s_bindT_2 : ∀ (fx : Nat → Bool) (env : G.Env) (a : List Nat) (ts : List G.T), G.bindT fx (G.Tgt.tup a) (G.T.tup ts) env = G.bindAll fx a ts env := @G.bindT.eq_2
@[simp] theorem s_bindT_3 : ∀ (fx : Nat → Bool) (t : G.T) (env : G.Env) (a : List Nat), (∀ (ts : List G.T), t = G.T.tup ts → False) → G.bindT fx (G.Tgt.tup a) t env = Option.none := @G.bindT.eq_3
@[simp] theorem s_bindAll_1 : ∀ (fx : Nat → Bool) (x : G.Env), G.bindAll fx [] [] x = Option.some x := @G.bindAll.eq_1
@[simp] theorem s_bindAll_2 : ∀ (fx : Nat → Bool) (x : G.Env) (i : Nat) (is : List Nat) (t : G.T) (ts : List G.T), G.bindAll fx (i :: is) (t :: ts) x = if i < List.length x ∧ fx i = Bool.false then G.bindAll fx is ts (List.set x i (Option.some (G.Iv.val t))) else Option.none := @G.bindAll.eq_2
@[simp] theorem s_bindAll_3 : ∀ (fx : Nat → Bool) (x : List Nat) (x_1 : List G.T) (x_2 : G.Env), (x = [] → x_1 = [] → False) → (∀ (i : Nat) (is : List Nat) (t : G.T) (ts : List G.T), x = i :: is → x_1 = t :: ts → False) → G.bindAll fx x x_1 x_2 = Option.none := @G.bindAll.eq_3
@[simp] theorem s_wipeE_1 : ∀ (env : G.Env), G.wipeE env [] = env := @G.wipeE.eq_1
@[simp] theorem s_wipeE_2 : ∀ (env : G.Env) (v : Nat) (vs : List Nat), G.wipeE env (v :: vs) = List.set (G.wipeE env vs) v Option.none := @G.wipeE.eq_2
@[simp] theorem s_slR_1 : ∀ (lo hi : Option Int) (xs : List G.T), G.slR (G.T.lst xs) lo hi = Option.some (G.Rv.lst (G.cutT xs lo hi)) := @G.slR.eq_1
@[simp] theorem s_slR_2 : ∀ (lo hi : Option Int) (xs : List G.T), G.slR (G.T.rlst xs) lo hi = Option.some (G.Rv.lst (G.cutT xs lo hi)) := @G.slR.eq_2
@[simp] theorem s_slR_3 : ∀ (lo hi : Option Int) (xs : List G.T), G.slR (G.T.tup xs) lo hi = Option.some (G.Rv.tup (G.cutT xs lo hi)) := @G.slR.eq_3
@[simp] theorem s_slR_4 : ∀ (lo hi : Option Int) (z : PySem.Str), G.slR (G.T.str z) lo hi = if PySem.Str.length z ≤ PySem.sizeLine then Option.some (G.Rv.val (G.T.str (L2.cutS z lo hi))) else Option.none := @G.slR.eq_4
@[simp] theorem s_slR_5 : ∀ (x : G.T) (lo hi : Option Int), (∀ (xs : List G.T), x = G.T.lst xs → False) → (∀ (xs : List G.T), x = G.T.rlst xs → False) → (∀ (xs : List G.T), x = G.T.tup xs → False) → (∀ (z : PySem.Str), x = G.T.str z → False) → G.slR x lo hi = Option.none := @G.slR.eq_5
@[simp] theorem s_lockD_1 : ∀ (env : G.Env) (i : Nat),
  G.lockD env i =
    match env[i]? with
    | Option.some (Option.some (G.Iv.own (G.Ow.dic o))) => List.set env i (Option.some (G.Iv.lck (G.Ow.dic o)))
    | x => env := @G.lockD.eq_1
@[simp] theorem s_isD_1 : ∀ (env : G.Env) (i : Nat),
  G.isD env i =
    match env[i]? with
    | Option.some (Option.some (G.Iv.own (G.Ow.dic kvs))) => Bool.true
    | x => Bool.false := @G.isD.eq_1
@[simp] theorem s_unlockR_1 : ∀ {α : Type} (i : Nat) (a : α) (e : G.Env),
  G.unlockR i (G.Out.ok a e) =
    match e[i]? with
    | Option.some (Option.some (G.Iv.lck (G.Ow.dic o))) => G.Out.ok a (List.set e i (Option.some (G.Iv.own (G.Ow.dic o))))
    | x => G.Out.stuck := @G.unlockR.eq_1
@[simp] theorem s_dicOf_1 : ∀ (env : G.Env) (i : Nat),
  G.dicOf env (G.R.loan i) =
    match env[i]? with
    | Option.some (Option.some (G.Iv.lck (G.Ow.dic kts))) => Option.some kts
    | x => Option.none := @G.dicOf.eq_1
@[simp] theorem s_dicOf_2 : ∀ (env : G.Env) (x : G.R), (∀ (i : Nat), x = G.R.loan i → False) → G.dicOf env x = Option.none := @G.dicOf.eq_2
@[simp] theorem s_pairUp_1 : G.pairUp [] = Option.some [] := @G.pairUp.eq_1
@[simp] theorem s_pairUp_2 : ∀ (k v : G.T) (r : List G.T), G.pairUp (k :: v :: r) = Option.bind (G.keyT k) fun (k : L2.Key) => Option.map (fun (x : List (L2.Key × G.T)) => (k, v) :: x) (G.pairUp r) := @G.pairUp.eq_2
@[simp] theorem s_pairUp_3 : ∀ (x : List G.T), (x = [] → False) → (∀ (k v : G.T) (r : List G.T), x = k :: v :: r → False) → G.pairUp x = Option.none := @G.pairUp.eq_3
@[simp] theorem s_isDicT_1 : ∀ (kvs : List (L2.Key × G.T)), G.isDicT (G.T.dic kvs) = Bool.true := @G.isDicT.eq_1
@[simp] theorem s_isDicT_2 : ∀ (x : G.T), (∀ (kvs : List (L2.Key × G.T)), x = G.T.dic kvs → False) → G.isDicT x = Bool.false := @G.isDicT.eq_2
@[simp] theorem s_isSq_1 : ∀ (xs : List G.T), G.isSq (G.T.lst xs) = Bool.true := @G.isSq.eq_1
@[simp] theorem s_isSq_2 : ∀ (xs : List G.T), G.isSq (G.T.tup xs) = Bool.true := @G.isSq.eq_2
@[simp] theorem s_isSq_3 : ∀ (x : G.T), (∀ (xs : List G.T), x = G.T.lst xs → False) → (∀ (xs : List G.T), x = G.T.tup xs → False) → G.isSq x = Bool.false := @G.isSq.eq_3
@[simp] theorem s_mapE_1 : ∀ {α : Type} (f : G.Env → G.Env) (a : α) (e : G.Env), G.mapE f (G.Out.ok a e) = G.Out.ok a (f e) := @G.mapE.eq_1
@[simp] theorem s_noexc_1 : ∀ {α : Type} (a : α) (e : G.Env), G.noexc (G.Out.ok a e) = G.Out.ok a e := @G.noexc.eq_1
@[simp] theorem s_ofO_1 : ∀ {α : Type} (x : G.Env) (a : α), G.ofO (Option.some a) x = G.Out.ok a x := @G.ofO.eq_1
@[simp] theorem s_truR_4 (y : Str) : truR (.str y) = if y.length ≤ sizeLine then some ((y.length : Int) != 0) else none := rfl
end G
namespace G
open PySem PySem.Spec PyProof.Rows L2

/-! # plain laws: loops and comprehensions -/
@[simp] theorem szle {n : Nat} (h : n ≤ 100000) : (n ≤ sizeLine) = True := eq_true (Nat.le_trans h (by decide))
@[simp] theorem szlt {n : Nat} (h : n ≤ 100000) : (n < sizeLine) = True := eq_true (Nat.lt_of_le_of_lt h (by decide))
theorem lt_size {n : Nat} (h : n ≤ 100000) : n < sizeLine := Nat.lt_of_le_of_lt h (by decide)
theorem le_size {n : Nat} (h : n ≤ 100000) : n ≤ sizeLine := Nat.le_trans h (by decide)
section
variable {C : Nat → List Iv → Res} {G : Nat → T} {D : Nat → Nat → List T} {fx : Nat → Bool} {L : Nat}
/-- one turn of a comprehension, its names bound -/
def lcOne (C : Nat → List Iv → Res) (G : Nat → T) (D : Nat → Nat → List T) (cond : IBO) (elt : IE) (e2 : Env) : Out (Option T) := (evC C G D cond e2).bind fun k e3 => if k then (ev C G D elt e3).bind fun r e4 => ofO ((esc e4 r).map some) e4 else .ok none e3
@[simp] theorem s_lcOne (C : Nat → List Iv → Res) (G : Nat → T) (D : Nat → Nat → List T) (cond : IBO) (elt : IE) (e2 : Env) : lcOne C G D cond elt e2 = (evC C G D cond e2).bind fun k e3 => if k then (ev C G D elt e3).bind fun r e4 => ofO ((esc e4 r).map some) e4 else .ok none e3 := rfl
theorem lcLoop_pure {α : Type} {f : α → T} {step : T → Env → Out (Option T)} {vs : List Nat} {w0 : Env} {g : α → Option T} : ∀ {xs : List α} {acc : List T} {e : Env}, (∀ x ∈ xs, ∀ e, wipeE e vs = w0 → ∃ e', step (f x) e = .ok (g x) e' ∧ wipeE e' vs = w0) → wipeE e vs = w0 → acc.length + xs.length < sizeLine →
    ∃ e', lcLoop step (xs.map f) acc e = .ok (acc ++ xs.filterMap g) e' ∧ wipeE e' vs = w0
  | [], acc, e, _, he, _ => ⟨e, by simp [lcLoop], he⟩
  | x :: xs, acc, e, h, he, hz => by
    obtain ⟨e1, h1, h2⟩ := h x (by simp) e he
    simp only [List.length_cons] at hz
    have h' : ∀ u ∈ xs, ∀ e, wipeE e vs = w0 → ∃ e', step (f u) e = .ok (g u) e' ∧ wipeE e' vs = w0 := fun u hu => h u (by simp [hu])
    cases hg : g x with
    | none =>
      obtain ⟨e2, h3, h4⟩ := lcLoop_pure (acc := acc) h' h2 (by omega)
      refine ⟨e2, ?_, h4⟩
      simp only [List.map_cons, lcLoop, h1, hg, s_bind_ok, List.filterMap_cons]
      exact h3
    | some y =>
      obtain ⟨e2, h3, h4⟩ := lcLoop_pure (acc := acc ++ [y]) h' h2 (by simp; omega)
      refine ⟨e2, ?_, h4⟩
      simp only [List.map_cons, lcLoop, h1, hg, s_bind_ok, List.filterMap_cons]
      rw [if_pos (by omega), h3]
      simp
/-- a comprehension whose turns leave all else as it is; x comes as f x, and gives g x or nothing -/
theorem lc_opt {α : Type} {src : Src} {tg : Tgt} {cond : IBO} {elt : IE} {own : List (Str × Nat)} {env e1 : Env} {xs : List α} {f : α → T} {lk : Option Nat} (w0 : Env) (g : α → Option T) (hs : evSrc C G D src env = .ok (xs.map f, lk) e1) (hw : wipeE (lockE e1 lk) (own.map (·.2)) = w0)
    (step : ∀ x ∈ xs, ∃ e2 e', bindT (fun _ => false) tg (f x) w0 = some e2 ∧ lcOne C G D cond elt e2 = .ok (g x) e' ∧ wipeE e' (own.map (·.2)) = w0) (hz : xs.length < sizeLine) :
    ev C G D (.lc src tg cond elt own) env = .ok (.new (.lst (xs.filterMap g))) (unlockE w0 lk) := by
  obtain ⟨e', h1, h2⟩ := lcLoop_pure (step := fun t e => match bindT (fun _ => false) tg t (wipeE e (own.map (·.2))) with
        | none => .stuck
        | some e2 => noexc ((evC C G D cond e2).bind fun k e3 => if k then (ev C G D elt e3).bind fun r e4 => ofO ((esc e4 r).map some) e4 else .ok none e3)) (vs := own.map (·.2)) (w0 := w0) (f := f) (g := g) (xs := xs) (acc := []) (e := lockE e1 lk) (fun t ht e he => by
      obtain ⟨e2, e', q1, q2, q3⟩ := step t ht
      refine ⟨e', ?_, q3⟩
      simp only [he, q1]
      unfold lcOne at q2
      rw [q2]
      rfl) hw (by simpa using hz)
  show (evSrc C G D src env).bind _ = _
  rw [hs, s_bind_ok]
  refine Eq.trans (congrArg (fun o : Out (List T) => o.bind fun acc e5 => Out.ok (R.new (.lst acc)) (unlockE (wipeE e5 (own.map (·.2))) lk)) h1) ?_
  simp only [s_bind_ok, h2, List.nil_append]
/-- .. each x gives g x -/
theorem lc_map {α : Type} {src : Src} {tg : Tgt} {cond : IBO} {elt : IE} {own : List (Str × Nat)} {env e1 : Env} {xs : List α} {f : α → T} {lk : Option Nat} (w0 : Env) (g : α → T) (hs : evSrc C G D src env = .ok (xs.map f, lk) e1) (hw : wipeE (lockE e1 lk) (own.map (·.2)) = w0)
    (step : ∀ x ∈ xs, ∃ e2 e', bindT (fun _ => false) tg (f x) w0 = some e2 ∧ lcOne C G D cond elt e2 = .ok (some (g x)) e' ∧ wipeE e' (own.map (·.2)) = w0) (hz : xs.length < sizeLine) :
    ev C G D (.lc src tg cond elt own) env = .ok (.new (.lst (xs.map g))) (unlockE w0 lk) := by
  rw [lc_opt w0 (fun x => some (g x)) hs hw step hz]
  simp
/-- .. those with p x give g x -/
theorem lc_filter {α : Type} {src : Src} {tg : Tgt} {cond : IBO} {elt : IE} {own : List (Str × Nat)} {env e1 : Env} {xs : List α} {f : α → T} {lk : Option Nat} (w0 : Env) (p : α → Bool) (g : α → T) (hs : evSrc C G D src env = .ok (xs.map f, lk) e1) (hw : wipeE (lockE e1 lk) (own.map (·.2)) = w0)
    (step : ∀ x ∈ xs, ∃ e2 e', bindT (fun _ => false) tg (f x) w0 = some e2 ∧ lcOne C G D cond elt e2 = .ok (if p x = true then some (g x) else none) e' ∧ wipeE e' (own.map (·.2)) = w0) (hz : xs.length < sizeLine) :
    ev C G D (.lc src tg cond elt own) env = .ok (.new (.lst ((xs.filter p).map g))) (unlockE w0 lk) := by
  rw [lc_opt w0 (fun x => if p x = true then some (g x) else none) hs hw step hz]
  congr 3
  clear step hz hs
  induction xs with
  | nil => rfl
  | cons x xs ih =>
    by_cases h : p x = true
    · simp [List.filterMap_cons, h, ih]
    · simp [List.filterMap_cons, h, ih]
/-- a dict comprehension -/
def dcOne (C : Nat → List Iv → Res) (G : Nat → T) (D : Nat → Nat → List T) (cond : IBO) (key val : IE) (e2 : Env) : Out (Option (Key × T)) := (evC C G D cond e2).bind fun k e3 => if k then (ev C G D key e3).bind fun rk e4 => (ev C G D val e4).bind fun rv e5 => ofO (((lookT e5 rk).bind keyT).bind fun k => (esc e5 rv).map fun t => some (k, t)) e5 else .ok none e3
@[simp] theorem s_dcOne (C : Nat → List Iv → Res) (G : Nat → T) (D : Nat → Nat → List T) (cond : IBO) (key val : IE) (e2 : Env) : dcOne C G D cond key val e2 = (evC C G D cond e2).bind fun k e3 => if k then (ev C G D key e3).bind fun rk e4 => (ev C G D val e4).bind fun rv e5 => ofO (((lookT e5 rk).bind keyT).bind fun k => (esc e5 rv).map fun t => some (k, t)) e5 else .ok none e3 := rfl
theorem putT_len (kts : List (Key × T)) (k : Key) (t : T) : (putT kts k t).length ≤ kts.length + 1 := by
  unfold putT
  split <;> simp
theorem dcLoop_pure {α : Type} {f : α → T} {step : T → Env → Out (Option (Key × T))} {vs : List Nat} {w0 : Env} {g : α → Key × T} : ∀ {xs : List α} {acc : List (Key × T)} {e : Env}, (∀ x ∈ xs, ∀ e, wipeE e vs = w0 → ∃ e', step (f x) e = .ok (some (g x)) e' ∧ wipeE e' vs = w0) → wipeE e vs = w0 → acc.length + xs.length < sizeLine →
    ∃ e', dcLoop step (xs.map f) acc e = .ok (xs.foldl (fun acc x => putT acc (g x).1 (g x).2) acc) e' ∧ wipeE e' vs = w0
  | [], acc, e, _, he, _ => ⟨e, by simp [dcLoop], he⟩
  | x :: xs, acc, e, h, he, hz => by
    obtain ⟨e1, h1, h2⟩ := h x (by simp) e he
    simp only [List.length_cons] at hz
    have h' : ∀ u ∈ xs, ∀ e, wipeE e vs = w0 → ∃ e', step (f u) e = .ok (some (g u)) e' ∧ wipeE e' vs = w0 := fun u hu => h u (by simp [hu])
    have hp := putT_len acc (g x).1 (g x).2
    obtain ⟨e2, h3, h4⟩ := dcLoop_pure (acc := putT acc (g x).1 (g x).2) h' h2 (by omega)
    refine ⟨e2, ?_, h4⟩
    simp only [List.map_cons, dcLoop, h1, s_bind_ok, List.foldl_cons]
    rw [if_pos (by omega), h3]
theorem dc_map {α : Type} {src : Src} {tg : Tgt} {cond : IBO} {key val : IE} {own : List (Str × Nat)} {env e1 : Env} {xs : List α} {f : α → T} {lk : Option Nat} (w0 : Env) (g : α → Key × T) (hs : evSrc C G D src env = .ok (xs.map f, lk) e1) (hw : wipeE (lockE e1 lk) (own.map (·.2)) = w0)
    (step : ∀ x ∈ xs, ∃ e2 e', bindT (fun _ => false) tg (f x) w0 = some e2 ∧ dcOne C G D cond key val e2 = .ok (some (g x)) e' ∧ wipeE e' (own.map (·.2)) = w0) (hz : xs.length < sizeLine) :
    ev C G D (.dc src tg cond key val own) env = .ok (.new (.dic (xs.foldl (fun acc x => putT acc (g x).1 (g x).2) []))) (unlockE w0 lk) := by
  obtain ⟨e', h1, h2⟩ := dcLoop_pure (step := fun t e => match bindT (fun _ => false) tg t (wipeE e (own.map (·.2))) with
        | none => .stuck
        | some e2 => noexc ((evC C G D cond e2).bind fun k e3 => if k then (ev C G D key e3).bind fun rk e4 => (ev C G D val e4).bind fun rv e5 => ofO (((lookT e5 rk).bind keyT).bind fun k => (esc e5 rv).map fun t => some (k, t)) e5 else .ok none e3)) (vs := own.map (·.2)) (w0 := w0) (f := f) (g := g) (xs := xs) (acc := []) (e := lockE e1 lk) (fun t ht e he => by
      obtain ⟨e2, e', q1, q2, q3⟩ := step t ht
      refine ⟨e', ?_, q3⟩
      simp only [he, q1]
      unfold dcOne at q2
      rw [q2]
      rfl) hw (by simpa using hz)
  show (evSrc C G D src env).bind _ = _
  rw [hs, s_bind_ok]
  refine Eq.trans (congrArg (fun o : Out (List (Key × T)) => o.bind fun acc e5 => Out.ok (R.new (.dic acc)) (unlockE (wipeE e5 (own.map (·.2))) lk)) h1) ?_
  simp only [s_bind_ok, h2]
/-! ## loops -/
/-- a loop whose body goes on: I s e, the state s stands in e; rest: what is left -/
theorem forL_st {α σ : Type} {tg : Tgt} {body : Env → Out Sg} {f : α → T} (I : σ → Env → Prop) (st : σ → α → σ) : ∀ {xs : List α} {s : σ} {e : Env},
    (∀ x ∈ xs, ∀ s e, I s e → ∃ e1 e2, bindT fx tg (f x) e = some e1 ∧ body e1 = .ok .nxt e2 ∧ I (st s x) e2) → I s e → ∃ e', forL fx tg body (xs.map f) e = .ok .nxt e' ∧ I (xs.foldl st s) e'
  | [], s, e, _, he => ⟨e, rfl, he⟩
  | x :: xs, s, e, h, he => by
    obtain ⟨e1, e2, h1, h2, h3⟩ := h x (by simp) s e he
    obtain ⟨e3, h4, h5⟩ := forL_st I st (xs := xs) (fun u hu => h u (by simp [hu])) h3
    exact ⟨e3, by simp only [List.map_cons, forL, h1, h2, s_bind_ok, h4], h5⟩
/-- .. told by what is done and what is left -/
theorem forL_pos {α : Type} {tg : Tgt} {body : Env → Out Sg} {f : α → T} (I : List α → List α → Env → Prop) : ∀ {xs : List α} {pre : List α} {e : Env},
    (∀ pre x xs e, I pre (x :: xs) e → ∃ e1 e2, bindT fx tg (f x) e = some e1 ∧ body e1 = .ok .nxt e2 ∧ I (pre ++ [x]) xs e2) → I pre xs e → ∃ e', forL fx tg body (xs.map f) e = .ok .nxt e' ∧ I (pre ++ xs) [] e'
  | [], pre, e, _, he => ⟨e, rfl, by simpa using he⟩
  | x :: xs, pre, e, h, he => by
    obtain ⟨e1, e2, h1, h2, h3⟩ := h pre x xs e he
    obtain ⟨e3, h4, h5⟩ := forL_pos I (xs := xs) h h3
    exact ⟨e3, by simp only [List.map_cons, forL, h1, h2, s_bind_ok, h4], by simpa using h5⟩
/-- a loop that may hand back: r x, what is handed back at x -/
theorem forL_find {α : Type} {tg : Tgt} {body : Env → Out Sg} {f : α → T} (I : Env → Prop) (r : α → Option Iv) : ∀ {xs : List α} {e : Env},
    (∀ x ∈ xs, ∀ e, I e → ∃ e1 e2, bindT fx tg (f x) e = some e1 ∧ body e1 = .ok (match r x with | some iv => .ret iv | none => .nxt) e2 ∧ I e2) → I e → ∃ e', forL fx tg body (xs.map f) e = .ok (match xs.findSome? r with | some iv => .ret iv | none => .nxt) e' ∧ I e'
  | [], e, _, he => ⟨e, rfl, he⟩
  | x :: xs, e, h, he => by
    obtain ⟨e1, e2, h1, h2, h3⟩ := h x (by simp) e he
    cases hr : r x with
    | some iv => exact ⟨e2, by simp only [List.map_cons, forL, h1, h2, hr, s_bind_ok, List.findSome?_cons], h3⟩
    | none =>
      obtain ⟨e3, h4, h5⟩ := forL_find I r (xs := xs) (fun u hu => h u (by simp [hu])) h3
      exact ⟨e3, by simp only [List.map_cons, forL, h1, h2, hr, s_bind_ok, h4, List.findSome?_cons], h5⟩
theorem for_ok {tg : Tgt} {src : Src} {body : ISs} {env e1 e' : Env} {items : List T} {lk : Option Nat} {g : Sg} (hs : evSrc C G D src env = .ok (items, lk) e1) (h : forL fx tg (xcs C G D fx L body) items (lockE e1 lk) = .ok g e') :
    xc C G D fx L (.for tg src body) env = .ok g (unlockE e' lk) := by
  show (evSrc C G D src env).bind _ = _
  rw [hs, s_bind_ok, h]
  rfl
end
theorem inRng_nat {z : Nat} (h : z ≤ 1000000000) : inRng (z : Int) = true := by
  refine Nat.ble_eq.mpr ?_
  omega
theorem inRng_int {z : Int} (h : -1000000000 ≤ z ∧ z ≤ 1000000000) : inRng z = true := by
  refine Nat.ble_eq.mpr ?_
  omega
theorem rngT_map (lo : Int) (n : Nat) : rngT lo n = (List.range n).map fun k => T.int (lo + (k : Nat)) := rfl
theorem src_rng1 {C : Nat → List Iv → Res} {G : Nat → T} {D : Nat → Nat → List T} {e : IE} {env e1 : Env} {z : Nat} (h : ev C G D e env = .ok (.val (.int z)) e1) (hz : z ≤ 1000000000) : evSrc C G D (.rng1 e) env = .ok ((List.range z).map (fun k => T.int (0 + (k : Nat))), none) e1 := by
  rw [evSrc.eq_2, h, s_bind_ok]
  show (if inRng (z : Int) = true then Out.ok (rngT 0 (z : Int).toNat, none) e1 else .stuck) = _
  rw [if_pos (inRng_nat hz), Int.toNat_natCast]
  rfl
@[simp] theorem mulOk_l {i j : Int} (h : -(2 ^ 64) < i ∧ i < 2 ^ 64) : mulOk i j = true := by
  unfold mulOk; rw [decide_eq_true h]; rfl
@[simp] theorem mulOk_r {i j : Int} (h : -(2 ^ 64) < j ∧ j < 2 ^ 64) : mulOk i j = true := by
  unfold mulOk; rw [decide_eq_true h]; simp
theorem callF_succ {Pr : Nat → Option FnI} {G : Nat → T} {D : Nat → Nat → List T} {L k i : Nat} {ivs : List Iv} {f : FnI} (h : Pr i = some f) (hl : ivs.length = f.np) : callF Pr G D L (k + 1) i ivs = resOf ivs (xcs (callF Pr G D L k) G D (fxOf ivs) L f.body (ivs.map some ++ List.replicate (f.ns - f.np) none)) := by
  simp only [callF, h, if_pos hl]
end G
namespace G
open PySem PySem.Spec PyProof.Rows L2

/-! # ratios, plainly -/
def rt (q : Rat) : T := .tup [.int q.num, .int (q.den : Int)]
/-- so many bits above and below -/
def Rsz (q : Rat) (n : Nat) : Prop := q.num.natAbs < 2 ^ n ∧ q.den < 2 ^ n
theorem Rsz.mono {q : Rat} {n m : Nat} (h : Rsz q n) (hm : n ≤ m) : Rsz q m := ⟨Nat.lt_of_lt_of_le h.1 (Nat.pow_le_pow_right (by decide) hm), Nat.lt_of_lt_of_le h.2 (Nat.pow_le_pow_right (by decide) hm)⟩
theorem log_lt {a n : Nat} (h : a < 2 ^ n) (hn : 0 < n) : a.log2 < n := by
  by_cases ha : a = 0
  · subst ha; simpa using hn
  · exact (Nat.log2_lt ha).mpr h
theorem natAbs_lt_mul {a b : Int} {n m : Nat} (ha : a.natAbs < 2 ^ n) (hb : b.natAbs < 2 ^ m) : (a * b).natAbs < 2 ^ (n + m) := by
  rw [Int.natAbs_mul, Nat.pow_add]
  exact Nat.mul_lt_mul'' ha hb
theorem nat_lt_mul {a b : Nat} {n m : Nat} (ha : a < 2 ^ n) (hb : b < 2 ^ m) : a * b < 2 ^ (n + m) := by
  rw [Nat.pow_add]
  exact Nat.mul_lt_mul'' ha hb
theorem natAbs_lt_add {a b : Int} {n : Nat} (ha : a.natAbs < 2 ^ n) (hb : b.natAbs < 2 ^ n) : (a + b).natAbs < 2 ^ (n + 1) := by
  rw [Nat.pow_succ]
  omega
theorem nat_lt_add {a b n : Nat} (ha : a < 2 ^ n) (hb : b < 2 ^ n) : a + b < 2 ^ (n + 1) := by
  rw [Nat.pow_succ]
  omega
theorem mulOk_sz {a b : Int} {n m : Nat} (ha : a.natAbs < 2 ^ n) (hb : b.natAbs < 2 ^ m) (hn : 0 < n) (hm : 0 < m) (h : n + m ≤ 1000000) : mulOk a b = true := by
  have h1 := log_lt ha hn
  have h2 := log_lt hb hm
  unfold mulOk
  rw [Bool.or_eq_true, decide_eq_true_eq]
  right
  omega
theorem divInt_eq {n d : Int} (hd : 0 < d) : (Rat.divInt n d).num = n / (Int.gcd n d : Nat) ∧ ((Rat.divInt n d).den : Int) = d / (Int.gcd n d : Nat) := by
  rw [Rat.num_divInt, Rat.den_divInt, if_neg (by omega), Int.sign_eq_one_of_pos hd, Int.one_mul, Int.gcd_comm d n]
  refine ⟨rfl, ?_⟩
  rw [Int.natCast_ediv]
  congr 1
  omega
theorem divInt_sz {n d : Int} {m : Nat} (hd : d ≠ 0) (hn : n.natAbs < 2 ^ m) (hm : d.natAbs < 2 ^ m) : Rsz (Rat.divInt n d) m := by
  constructor
  · rw [Rat.num_divInt]
    refine Nat.lt_of_le_of_lt ?_ hn
    rw [Int.natAbs_ediv_of_dvd (Int.dvd_trans (Int.gcd_dvd_right ..) (Int.dvd_mul_left ..)), Int.natAbs_mul]
    refine Nat.le_trans (Nat.div_le_self _ _) ?_
    have : d.sign.natAbs ≤ 1 := by
      rcases Int.lt_trichotomy d 0 with h | h | h
      · rw [Int.sign_eq_neg_one_of_neg h]; decide
      · exact absurd h hd
      · rw [Int.sign_eq_one_of_pos h]; decide
    calc d.sign.natAbs * n.natAbs ≤ 1 * n.natAbs := Nat.mul_le_mul_right _ this
      _ = n.natAbs := Nat.one_mul _
  · rw [Rat.den_divInt, if_neg hd]
    exact Nat.lt_of_le_of_lt (Nat.div_le_self _ _) hm
theorem add_divInt (a b : Rat) : a + b = Rat.divInt (a.num * b.den + b.num * a.den) (a.den * b.den) := by
  rw [Rat.add_def', ← Int.natCast_mul, ← Rat.divInt_ofNat]
theorem mul_divInt (a b : Rat) : a * b = Rat.divInt (a.num * b.num) (a.den * b.den) := by
  rw [Rat.mul_def', ← Int.natCast_mul, ← Rat.divInt_ofNat]
theorem den_pos' (q : Rat) : (0 : Int) < q.den := by
  have := q.den_pos
  omega
theorem add_sz {a b : Rat} {n m : Nat} (ha : Rsz a n) (hb : Rsz b m) : Rsz (a + b) (n + m + 1) := by
  rw [add_divInt]
  have h1 : (a.num * b.den).natAbs < 2 ^ (n + m) := natAbs_lt_mul ha.1 (by simpa using hb.2)
  have h2 : (b.num * a.den).natAbs < 2 ^ (n + m) := by
    rw [Nat.add_comm]; exact natAbs_lt_mul hb.1 (by simpa using ha.2)
  have h3 : ((a.den : Int) * b.den).natAbs < 2 ^ (n + m) := natAbs_lt_mul (by simpa using ha.2) (by simpa using hb.2)
  have hp : (a.den : Int) * b.den ≠ 0 := by
    have := Int.mul_pos (den_pos' a) (den_pos' b)
    omega
  exact divInt_sz hp (natAbs_lt_add h1 h2) (Nat.lt_of_lt_of_le h3 (Nat.pow_le_pow_right (by decide) (by omega)))
theorem mul_sz {a b : Rat} {n m : Nat} (ha : Rsz a n) (hb : Rsz b m) : Rsz (a * b) (n + m) := by
  rw [mul_divInt]
  have h3 : ((a.den : Int) * b.den).natAbs < 2 ^ (n + m) := natAbs_lt_mul (by simpa using ha.2) (by simpa using hb.2)
  have hp : (a.den : Int) * b.den ≠ 0 := by
    have := Int.mul_pos (den_pos' a) (den_pos' b)
    omega
  exact divInt_sz hp (natAbs_lt_mul ha.1 hb.1) h3
theorem divInt_flip (n d : Int) : Rat.divInt n d = Rat.divInt (-n) (-d) := by
  rw [Rat.divInt_neg', Int.neg_neg]
@[simp] theorem eqR_int (i j : Int) : eqR (.int i) (.int j) = some (decide (i = j)) := by
  have e : eqR (.int i) (.int j) = some (decide (V.int i = V.int j)) := rfl
  rw [e]
  congr 1
  rw [Bool.eq_iff_iff]; simp
/-! ## the walk of Euclid -/
def eucl : Nat → Nat × Nat → Nat × Nat
  | 0, p => p
  | n + 1, p => eucl n (if p.2 ≠ 0 then (p.2, p.1 % p.2) else p)
theorem eucl_zero : ∀ (n a : Nat), eucl n (a, 0) = (a, 0)
  | 0, _ => rfl
  | n + 1, a => by
    show eucl n (if (a, 0).2 ≠ 0 then _ else (a, 0)) = _
    rw [if_neg (by simp)]
    exact eucl_zero n a
theorem eucl_gcd : ∀ (k n a b : Nat), b < 2 ^ k → 2 * k ≤ n → eucl n (a, b) = (Nat.gcd a b, 0)
  | 0, n, a, b, hb, _ => by
    have : b = 0 := by simpa using hb
    subst this
    rw [eucl_zero, Nat.gcd_zero_right]
  | k + 1, n, a, b, hb, hn => by
    match n, hn with
    | n + 2, hn =>
      by_cases h : b = 0
      · subst h; rw [eucl_zero, Nat.gcd_zero_right]
      · show eucl n (if (if (a, b).2 ≠ 0 then _ else _ : Nat × Nat).2 ≠ 0 then _ else _) = _
        rw [if_pos (show (a, b).2 ≠ 0 from h)]
        by_cases h2 : a % b = 0
        · rw [if_neg (by simpa using h2)]
          show eucl n (b, a % b) = _
          rw [h2, eucl_zero, Nat.gcd_comm a b, Nat.gcd_rec b a, h2, Nat.gcd_zero_left]
        · rw [if_pos (show (b, a % b).2 ≠ 0 from h2)]
          show eucl n (a % b, b % (a % b)) = _
          have h3 : a % b < b := Nat.mod_lt _ (by omega)
          have h4 : b % (a % b) < a % b := Nat.mod_lt _ (by omega)
          have h5 : b % (a % b) + (a % b) ≤ b := by
            have := Nat.div_add_mod b (a % b)
            have h6 : 1 ≤ b / (a % b) := (Nat.one_le_div_iff (by omega)).mpr (by omega)
            have h7 : (a % b) * 1 ≤ (a % b) * (b / (a % b)) := Nat.mul_le_mul_left _ h6
            omega
          rw [eucl_gcd k n (a % b) (b % (a % b)) (by rw [Nat.pow_succ] at hb; omega) (by omega)]
          have e1 : (a % b).gcd (b % (a % b)) = a.gcd b := by rw [Nat.gcd_comm, ← Nat.gcd_rec, ← Nat.gcd_rec, Nat.gcd_comm]
          rw [e1]
end G
namespace G
open PySem PySem.Spec PyProof.Rows L2

/-! # data that repr takes: how deep, and how much -/
structure Rp (B k n : Nat) (t : T) : Prop where
  fit : fitT k t = true
  shw : (toD k t).showable = true
  lvs : (toD k t).leavesShort B = true
  wgt : (toD k t).weight ≤ n
theorem Rp.mono {B k n m : Nat} {t : T} (h : Rp B k n t) (hm : n ≤ m) : Rp B k m t := ⟨h.fit, h.shw, h.lvs, Nat.le_trans h.wgt hm⟩
theorem rp_str {B k : Nat} {s : Str} (h : PyData.strOk s = true) : Rp B k s.length (.str s) := by
  have e : toD k (.str s) = .str s := by cases k <;> rfl
  refine ⟨by cases k <;> exact h, by rw [e]; rfl, ?_, by rw [e]; exact Nat.le_refl _⟩
  rw [e]
  unfold PyData.strOk at h
  rw [← Array.all_toList] at h
  simp only [PyData.leavesShort, List.all_eq_true, decide_eq_true_eq] at h ⊢
  intro c hc
  have := h c hc
  omega
theorem rp_int {B k b : Nat} {i : Int} (hb : 0 < b) (h : i.natAbs < 2 ^ b) (hB : b < B) (hB2 : B ≤ 1900) : Rp B k b (.int i) := by
  have e : toD k (.int i) = .int i := by cases k <;> rfl
  have hl := log_lt h hb
  refine ⟨by cases k <;> rfl, ?_, ?_, ?_⟩
  · rw [e]; simp only [PyData.showable, decide_eq_true_eq]; omega
  · rw [e]
    simp only [PyData.leavesShort, decide_eq_true_eq, PyData.shown]
    have h1 := int_text_length_le (a := i) hb hl
    have h3 : (Str.ofString (toString i)).length = (toString i).length := PySem.ofString_length _
    have h4 : (Str.ofString (toString i)).length ≤ B := by omega
    simpa using h4
  · rw [e]
    simp only [PyData.weight]
    split <;> omega
theorem rp_tup {B k n : Nat} {xs : List T} (h : ∀ x ∈ xs, Rp B k n x) : Rp B (k + 1) ((n + 1) * xs.length) (.tup xs) ∧ Rp B (k + 1) ((n + 1) * xs.length) (.lst xs) := by
  have key : xs.all (fitT k) = true ∧ PyData.showableAll (xs.map (toD k)) = true ∧ PyData.leavesShortAll B (xs.map (toD k)) = true ∧ PyData.weightAll (xs.map (toD k)) ≤ (n + 1) * xs.length := by
    induction xs with
    | nil => exact ⟨rfl, rfl, rfl, Nat.le_refl _⟩
    | cons x xs ih =>
      have h1 := h x (by simp)
      obtain ⟨a, b, c, d⟩ := ih fun y hy => h y (by simp [hy])
      refine ⟨by simp only [List.all_cons, h1.fit, a, Bool.and_self], by simp only [List.map_cons, PyData.showableAll, h1.shw, b, Bool.and_self], by simp only [List.map_cons, PyData.leavesShortAll, h1.lvs, c, Bool.and_self], ?_⟩
      have := h1.wgt
      simp only [List.map_cons, PyData.weightAll, List.length_cons, Nat.mul_add, Nat.mul_one]
      omega
  obtain ⟨a, b, c, d⟩ := key
  exact ⟨⟨a, by simpa only [toD, PyData.showable] using b, by simpa only [toD, PyData.leavesShort] using c, by simpa only [toD, PyData.weight] using d⟩, ⟨a, by simpa only [toD, PyData.showable] using b, by simpa only [toD, PyData.leavesShort] using c, by simpa only [toD, PyData.weight] using d⟩⟩
theorem rp_up {B k n : Nat} {t : T} (h : Rp B k n t) : Rp B (k + 1) n t := by
  have e := toD_up k t h.fit
  exact ⟨fit_up k t h.fit, by rw [e]; exact h.shw, by rw [e]; exact h.lvs, by rw [e]; exact h.wgt⟩
theorem rp_to {B k n : Nat} {t : T} (h : Rp B k n t) : ∀ {j : Nat}, k ≤ j → Rp B j n t := by
  intro j hj
  induction hj with
  | refl => exact h
  | step _ ih => exact rp_up ih
theorem repr_ok {B n : Nat} {t : T} (h : Rp B 40 n t) (hs : isSq t = true) (hB : 8 ≤ B) (hn : (B + 2) * n + B ≤ 16000000) : ∃ s, reprT t = some s := by
  have h1 := PyData.shown_le B hB _ h.lvs
  have h2 := h.wgt
  have h3 : (toD 40 t).shown.length ≤ sizeLine := by
    rw [sizeLine_eq]
    have : (B + 2) * (toD 40 t).weight ≤ (B + 2) * n := Nat.mul_le_mul_left _ h2
    omega
  refine ⟨(toD 40 t).shown, ?_⟩
  unfold reprT
  rw [hs, h.fit, h.shw, decide_eq_true h3]
  rfl
end G
namespace G
open PySem PySem.Spec PyProof.Rows L2

/-! # sorting texts -/
def slt (a b : Str) : Prop := a.cps.toList < b.cps.toList
instance (a b : Str) : Decidable (slt a b) := inferInstanceAs (Decidable (a.cps.toList < b.cps.toList))
theorem slt_trans_le {x y z : Str} (h : slt x y) (h2 : ¬ slt z y) : slt x z := by
  unfold slt at *
  apply Classical.byContradiction
  intro h3
  exact h2 (List.lt_of_le_of_lt (List.not_lt.mp h3) h)
theorem slt_le_trans {x y z : Str} (h : ¬ slt y x) (h2 : ¬ slt z y) : ¬ slt z x := by
  unfold slt at *
  exact List.not_lt.mpr (List.le_trans (List.not_lt.mp h) (List.not_lt.mp h2))
theorem slt_asymm {x y : Str} (h : slt x y) : ¬ slt y x := by
  unfold slt at *
  exact List.lt_asymm h
theorem insS_eq (x y : Str) (l : List Str) : insS x (y :: l) = if slt x y then x :: y :: l else y :: insS x l := rfl
theorem insS_all {x : Str} : ∀ {l : List Str}, (∀ z ∈ l, slt x z) → insS x l = x :: l
  | [], _ => rfl
  | y :: l, h => by rw [insS_eq, if_pos (h y (by simp))]
theorem insS_in {x z : Str} : ∀ {l : List Str}, z ∈ insS x l → z = x ∨ z ∈ l
  | [], h => by simpa [insS] using h
  | y :: l, h => by
    rw [insS_eq] at h
    split at h
    · simpa using h
    · rcases List.mem_cons.mp h with h | h
      · exact .inr (by simp [h])
      · exact (insS_in h).imp id fun q => by simp [q]
def SrtS (l : List Str) : Prop := l.Pairwise fun a b => ¬ slt b a
theorem insS_st {x : Str} : ∀ {l : List Str}, SrtS l → SrtS (insS x l)
  | [], _ => List.pairwise_singleton ..
  | y :: l, h => by
    obtain ⟨h1, h2⟩ := List.pairwise_cons.mp h
    rw [insS_eq]
    split
    · rename_i hxy
      refine List.pairwise_cons.mpr ⟨fun z hz => ?_, h⟩
      rcases List.mem_cons.mp hz with rfl | hz
      · exact slt_asymm hxy
      · exact slt_asymm (slt_trans_le hxy (h1 z hz))
    · rename_i hxy
      refine List.pairwise_cons.mpr ⟨fun z hz => ?_, insS_st h2⟩
      rcases insS_in hz with rfl | hz
      · exact hxy
      · exact h1 z hz
theorem sortS_st : ∀ l : List Str, SrtS (sortS l)
  | [] => List.Pairwise.nil
  | x :: l => insS_st (sortS_st l)
theorem insS_filter (p : Str → Bool) (x : Str) : ∀ {l : List Str}, SrtS l → (insS x l).filter p = if p x = true then insS x (l.filter p) else l.filter p
  | [], _ => by
    show [x].filter p = if p x = true then [x] else []
    by_cases h : p x = true <;> simp [h]
  | y :: l, h => by
    obtain ⟨h1, h2⟩ := List.pairwise_cons.mp h
    rw [insS_eq]
    split
    · rename_i hxy
      by_cases hp : p x = true
      · rw [if_pos hp, List.filter_cons, if_pos hp, insS_all]
        intro z hz
        rcases List.mem_cons.mp (List.mem_filter.mp hz).1 with rfl | hz
        · exact hxy
        · exact slt_trans_le hxy (h1 z hz)
      · rw [if_neg hp, List.filter_cons, if_neg hp]
    · rename_i hxy
      rw [List.filter_cons, insS_filter p x h2]
      by_cases hy : p y = true
      · simp only [hy, if_true, List.filter_cons]
        split
        · rw [insS_eq, if_neg hxy]
        · rfl
      · simp only [hy, List.filter_cons]
        rfl
theorem sortS_filter (p : Str → Bool) : ∀ l : List Str, sortS (l.filter p) = (sortS l).filter p
  | [] => rfl
  | x :: l => by
    show _ = (insS x (sortS l)).filter p
    rw [insS_filter p x (sortS_st l), ← sortS_filter p l, List.filter_cons]
    split <;> rfl
/-! # rows of rows -/
theorem flatMap_len_le {α β : Type} {g : α → List β} {c : Nat} : ∀ {xs : List α}, (∀ x ∈ xs, (g x).length ≤ c) → (xs.flatMap g).length ≤ c * xs.length
  | [], _ => by simp
  | x :: xs, h => by
    have h1 := h x (by simp)
    have h2 := flatMap_len_le (xs := xs) fun y hy => h y (by simp [hy])
    rw [List.flatMap_cons, List.length_append, List.length_cons, Nat.mul_add, Nat.mul_one]
    omega
section
variable {fx : Nat → Bool}
/-- a loop that puts g x behind a list -/
theorem forL_app {α : Type} {tg : Tgt} {body : Env → Out Sg} {f : α → T} (I : List T → Env → Prop) (g : α → List T) (N : Nat) : ∀ {xs : List α} {acc : List T} {e : Env},
    (∀ x ∈ xs, ∀ acc e, I acc e → acc.length + (g x).length ≤ N → ∃ e1 e2, bindT fx tg (f x) e = some e1 ∧ body e1 = .ok .nxt e2 ∧ I (acc ++ g x) e2) → I acc e → acc.length + (xs.flatMap g).length ≤ N → ∃ e', forL fx tg body (xs.map f) e = .ok .nxt e' ∧ I (acc ++ xs.flatMap g) e'
  | [], acc, e, _, he, _ => ⟨e, rfl, by simpa using he⟩
  | x :: xs, acc, e, h, he, hN => by
    rw [List.flatMap_cons, List.length_append] at hN
    obtain ⟨e1, e2, h1, h2, h3⟩ := h x (by simp) acc e he (by omega)
    obtain ⟨e3, h4, h5⟩ := forL_app I g N (xs := xs) (acc := acc ++ g x) (fun u hu => h u (by simp [hu])) h3 (by rw [List.length_append]; omega)
    exact ⟨e3, by simp only [List.map_cons, forL, h1, h2, s_bind_ok, h4], by simpa using h5⟩
end
theorem flatMap_range {α β : Type} (d : α) (xs : List α) (g : α → List β) : (List.range xs.length).flatMap (fun i => g (xs.getD i d)) = xs.flatMap g := by
  have h : (List.range xs.length).map (fun i => xs.getD i d) = xs := by
    apply List.ext_getElem
    · simp
    · intro i h1 h2
      simp at h1
      simp [h1]
  conv => rhs; rw [← h]
  rw [List.flatMap_map]
end G
namespace G
open PySem L2
def b_common : ISs := ISs.cons (IS.ret (IE.bi BI.gcd (IEs.cons (IE.var 0) (IEs.cons (IE.var 1) IEs.nil)))) ISs.nil
def b_ratio : ISs := ISs.cons (IS.ite (IB.val (IE.cmp CmpOp.Eq (IE.var 1) (IE.int 0))) (ISs.cons (IS.raise "ZeroDivisionError" "ratio with denominator zero") ISs.nil) ISs.nil) (ISs.cons (IS.ite (IB.val (IE.cmp CmpOp.Lt (IE.var 1) (IE.int 0))) (ISs.cons (IS.par 0 1 (IE.neg (IE.var 0)) (IE.neg (IE.var 1))) ISs.nil) ISs.nil) (ISs.cons (IS.asg 2 (IE.bi BI.gcd (IEs.cons (IE.var 0) (IEs.cons (IE.var 1) IEs.nil)))) (ISs.cons (IS.ret (IE.tup (IEs.cons (IE.bin Operator.FloorDiv (IE.var 0) (IE.var 2)) (IEs.cons (IE.bin Operator.FloorDiv (IE.var 1) (IE.var 2)) IEs.nil)))) ISs.nil)))
def b_plus : ISs := ISs.cons (IS.ite (IB.and (IB.val (IE.cmp CmpOp.Eq (IE.ix (IE.var 0) (IE.int 1)) (IE.int 1))) (IB.val (IE.cmp CmpOp.Eq (IE.ix (IE.var 1) (IE.int 1)) (IE.int 1)))) (ISs.cons (IS.ret (IE.tup (IEs.cons (IE.bin Operator.Add (IE.ix (IE.var 0) (IE.int 0)) (IE.ix (IE.var 1) (IE.int 0))) (IEs.cons (IE.int 1) IEs.nil)))) ISs.nil) ISs.nil) (ISs.cons (IS.ret (IE.call 0 (IEs.cons (IE.bin Operator.Add (IE.bin Operator.Mult (IE.ix (IE.var 0) (IE.int 0)) (IE.ix (IE.var 1) (IE.int 1))) (IE.bin Operator.Mult (IE.ix (IE.var 1) (IE.int 0)) (IE.ix (IE.var 0) (IE.int 1)))) (IEs.cons (IE.bin Operator.Mult (IE.ix (IE.var 0) (IE.int 1)) (IE.ix (IE.var 1) (IE.int 1))) IEs.nil)))) ISs.nil)
def b_negated : ISs := ISs.cons (IS.ret (IE.tup (IEs.cons (IE.neg (IE.ix (IE.var 0) (IE.int 0))) (IEs.cons (IE.ix (IE.var 0) (IE.int 1)) IEs.nil)))) ISs.nil
def b_minus : ISs := ISs.cons (IS.ret (IE.call 1 (IEs.cons (IE.var 0) (IEs.cons (IE.call 54 (IEs.cons (IE.var 1) IEs.nil)) IEs.nil)))) ISs.nil
def b_times : ISs := ISs.cons (IS.ite (IB.and (IB.val (IE.cmp CmpOp.Eq (IE.ix (IE.var 0) (IE.int 1)) (IE.int 1))) (IB.val (IE.cmp CmpOp.Eq (IE.ix (IE.var 1) (IE.int 1)) (IE.int 1)))) (ISs.cons (IS.ret (IE.tup (IEs.cons (IE.bin Operator.Mult (IE.ix (IE.var 0) (IE.int 0)) (IE.ix (IE.var 1) (IE.int 0))) (IEs.cons (IE.int 1) IEs.nil)))) ISs.nil) ISs.nil) (ISs.cons (IS.ret (IE.call 0 (IEs.cons (IE.bin Operator.Mult (IE.ix (IE.var 0) (IE.int 0)) (IE.ix (IE.var 1) (IE.int 0))) (IEs.cons (IE.bin Operator.Mult (IE.ix (IE.var 0) (IE.int 1)) (IE.ix (IE.var 1) (IE.int 1))) IEs.nil)))) ISs.nil)
def b_over : ISs := ISs.cons (IS.ret (IE.call 0 (IEs.cons (IE.bin Operator.Mult (IE.ix (IE.var 0) (IE.int 0)) (IE.ix (IE.var 1) (IE.int 1))) (IEs.cons (IE.bin Operator.Mult (IE.ix (IE.var 0) (IE.int 1)) (IE.ix (IE.var 1) (IE.int 0))) IEs.nil)))) ISs.nil
def b_below : ISs := ISs.cons (IS.ret (IE.cmp CmpOp.Lt (IE.bin Operator.Mult (IE.ix (IE.var 0) (IE.int 0)) (IE.ix (IE.var 1) (IE.int 1))) (IE.bin Operator.Mult (IE.ix (IE.var 1) (IE.int 0)) (IE.ix (IE.var 0) (IE.int 1))))) ISs.nil
def b_is_whole : ISs := ISs.cons (IS.ret (IE.and (IE.isin (IE.var 0) ["int"]) (IE.not (IE.isin (IE.var 0) ["bool"])))) ISs.nil
def b_is_ratio : ISs := ISs.cons (IS.ite (IB.or (IB.not (IB.val (IE.isin (IE.var 0) ["tuple"]))) (IB.val (IE.cmp CmpOp.NotEq (IE.bi BI.len (IEs.cons (IE.var 0) IEs.nil)) (IE.int 2)))) (ISs.cons (IS.ret (IE.bl false)) ISs.nil) ISs.nil) (ISs.cons (IS.ite (IB.or (IB.not (IB.val (IE.call 77 (IEs.cons (IE.ix (IE.var 0) (IE.int 0)) IEs.nil)))) (IB.not (IB.val (IE.call 77 (IEs.cons (IE.ix (IE.var 0) (IE.int 1)) IEs.nil))))) (ISs.cons (IS.ret (IE.bl false)) ISs.nil) ISs.nil) (ISs.cons (IS.ret (IE.and (IE.cmp CmpOp.GtE (IE.ix (IE.var 0) (IE.int 1)) (IE.int 1)) (IE.cmp CmpOp.Eq (IE.call 28 (IEs.cons (IE.ix (IE.var 0) (IE.int 0)) (IEs.cons (IE.ix (IE.var 0) (IE.int 1)) IEs.nil))) (IE.int 1)))) ISs.nil))
def b_ratio_text : ISs := ISs.cons (IS.ite (IB.val (IE.cmp CmpOp.Eq (IE.ix (IE.var 0) (IE.int 1)) (IE.int 1))) (ISs.cons (IS.ret (IE.bi BI.str (IEs.cons (IE.ix (IE.var 0) (IE.int 0)) IEs.nil))) ISs.nil) ISs.nil) (ISs.cons (IS.ret (IE.fstr (IEs.cons (IE.ix (IE.var 0) (IE.int 0)) (IEs.cons (IE.str "/") (IEs.cons (IE.ix (IE.var 0) (IE.int 1)) IEs.nil))))) ISs.nil)
def s_exceeds_1 : ISs := ISs.cons (IS.asg 3 (IE.bin Operator.Mult (IE.var 3) (IE.var 2))) ISs.nil
def f_exceeds_1 : IS := IS.for (Tgt.name 4) (Src.rng1 (IE.bin Operator.FloorDiv (IE.var 1) (IE.int 6))) s_exceeds_1
def s_exceeds_2 : ISs := ISs.cons (IS.asg 3 (IE.bin Operator.Mult (IE.var 3) (IE.int 10))) ISs.nil
def f_exceeds_2 : IS := IS.for (Tgt.name 4) (Src.rng1 (IE.bin Operator.Sub (IE.var 1) (IE.bin Operator.Mult (IE.int 6) (IE.bin Operator.FloorDiv (IE.var 1) (IE.int 6))))) s_exceeds_2
def b_exceeds : ISs := ISs.cons (IS.ite (IB.and (IB.val (IE.cmp CmpOp.LtE (IE.met0 Me0.bits (IE.bi BI.abs (IEs.cons (IE.ix (IE.var 0) (IE.int 0)) IEs.nil))) (IE.bin Operator.Mult (IE.int 3) (IE.var 1)))) (IB.val (IE.cmp CmpOp.LtE (IE.met0 Me0.bits (IE.ix (IE.var 0) (IE.int 1))) (IE.bin Operator.Mult (IE.int 3) (IE.var 1))))) (ISs.cons (IS.ret (IE.bl false)) ISs.nil) ISs.nil) (ISs.cons (IS.asg 2 (IE.bin Operator.Pow (IE.int 10) (IE.int 6))) (ISs.cons (IS.asg 3 (IE.int 1)) (ISs.cons f_exceeds_1 (ISs.cons f_exceeds_2 (ISs.cons (IS.ret (IE.or (IE.cmp CmpOp.GtE (IE.bi BI.abs (IEs.cons (IE.ix (IE.var 0) (IE.int 0)) IEs.nil)) (IE.var 3)) (IE.cmp CmpOp.GtE (IE.ix (IE.var 0) (IE.int 1)) (IE.var 3)))) ISs.nil)))))
def b_law_mix : ISs := ISs.cons (IS.asg 2 (IE.bin Operator.Mod (IE.bi BI.int (IEs.cons (IE.bin Operator.Add (IE.bin Operator.Mult (IE.bin Operator.Add (IE.var 0) (IE.int 11)) (IE.int 6364136223846793005)) (IE.bin Operator.Mult (IE.bin Operator.Add (IE.var 1) (IE.int 3)) (IE.int 1442695040888963407))) IEs.nil)) (IE.int 18446744073709551557))) (ISs.cons (IS.asg 3 (IE.bin Operator.Mod (IE.bi BI.int (IEs.cons (IE.bin Operator.Add (IE.bin Operator.Mult (IE.var 2) (IE.bin Operator.Add (IE.bin Operator.Add (IE.var 2) (IE.bin Operator.Mult (IE.int 2) (IE.var 1))) (IE.int 5))) (IE.int 7046029254386353131)) IEs.nil)) (IE.int 18446744073709551533))) (ISs.cons (IS.ret (IE.bin Operator.FloorDiv (IE.var 3) (IE.int 65536))) ISs.nil))
def e_law_jar_1 : IE := IE.lc (Src.seq (IE.sl (IE.var 0) IO.none (IO.some (IE.int 63)))) (Tgt.name 4) IBO.none (IE.bi BI.int (IEs.cons (IE.var 4) IEs.nil)) [("cell", 4)]
def s_law_jar_2 : ISs := ISs.cons (IS.asg 3 (IE.bin Operator.Mod (IE.bi BI.int (IEs.cons (IE.bin Operator.Add (IE.bin Operator.Mult (IE.var 3) (IE.int 31)) (IE.bi BI.abs (IEs.cons (IE.var 4) IEs.nil))) IEs.nil)) (IE.int 1000003))) ISs.nil
def f_law_jar_2 : IS := IS.for (Tgt.name 4) (Src.seq (IE.var 2)) s_law_jar_2
def b_law_jar : ISs := ISs.cons (IS.asg 2 e_law_jar_1) (ISs.cons (IS.asg 3 (IE.bin Operator.Add (IE.int 17) (IE.bin Operator.Mult (IE.int 7919) (IE.var 1)))) (ISs.cons f_law_jar_2 (ISs.cons (IS.ite (IB.val (IE.cmp CmpOp.GtE (IE.var 1) (IE.bi BI.len (IEs.cons (IE.var 2) IEs.nil)))) (ISs.cons (IS.ret (IE.lst (IEs.cons (IE.int 0) (IEs.cons (IE.int 0) (IEs.cons (IE.mov 3) IEs.nil))))) ISs.nil) ISs.nil) (ISs.cons (IS.asg 5 (IE.bi BI.abs (IEs.cons (IE.ix (IE.var 2) (IE.var 1)) IEs.nil))) (ISs.cons (IS.asg 6 (IE.bin Operator.Add (IE.bin Operator.Mult (IE.int 2) (IE.var 5)) (IE.ifx (IB.val (IE.cmp CmpOp.Lt (IE.ix (IE.var 2) (IE.var 1)) (IE.int 0))) (IE.int 1) (IE.int 0)))) (ISs.cons (IS.ite (IB.val (IE.cmp CmpOp.GtE (IE.var 5) (IE.bin Operator.Pow (IE.int 10) (IE.int 18)))) (ISs.cons (IS.ret (IE.lst (IEs.cons (IE.mov 5) (IEs.cons (IE.int 0) (IEs.cons (IE.mov 6) IEs.nil))))) ISs.nil) ISs.nil) (ISs.cons (IS.ret (IE.lst (IEs.cons (IE.int 0) (IEs.cons (IE.int 0) (IEs.cons (IE.bin Operator.Add (IE.var 6) (IE.bin Operator.Mult (IE.int 1000003) (IE.var 1))) IEs.nil))))) ISs.nil)))))))
def b_law_draw : ISs := ISs.cons (IS.setix 0 (IE.int 1) (IE.bin Operator.Add (IE.ix (IE.var 0) (IE.int 1)) (IE.int 1))) (ISs.cons (IS.ite (IB.val (IE.cmp CmpOp.Gt (IE.ix (IE.var 0) (IE.int 0)) (IE.int 0))) (ISs.cons (IS.asg 2 (IE.bin Operator.Mod (IE.bi BI.int (IEs.cons (IE.ix (IE.var 0) (IE.int 0)) IEs.nil)) (IE.var 1))) (ISs.cons (IS.setix 0 (IE.int 0) (IE.bin Operator.FloorDiv (IE.ix (IE.var 0) (IE.int 0)) (IE.var 1))) (ISs.cons (IS.ret (IE.var 2)) ISs.nil))) ISs.nil) (ISs.cons (IS.ret (IE.bin Operator.Mod (IE.bi BI.int (IEs.cons (IE.call 13 (IEs.cons (IE.ix (IE.var 0) (IE.int 2)) (IEs.cons (IE.ix (IE.var 0) (IE.int 1)) IEs.nil))) IEs.nil)) (IE.var 1))) ISs.nil))
def b_law_between : ISs := ISs.cons (IS.ret (IE.bin Operator.Add (IE.var 1) (IE.call 15 (IEs.cons (IE.var 0) (IEs.cons (IE.bin Operator.Add (IE.bin Operator.Sub (IE.var 2) (IE.var 1)) (IE.int 1)) IEs.nil))))) ISs.nil
def b_law_pick : ISs := ISs.cons (IS.ret (IE.ix (IE.var 1) (IE.call 15 (IEs.cons (IE.var 0) (IEs.cons (IE.bi BI.len (IEs.cons (IE.var 1) IEs.nil)) IEs.nil))))) ISs.nil
def s_law_gcd_1 : ISs := ISs.cons (IS.ite (IB.val (IE.cmp CmpOp.NotEq (IE.var 1) (IE.int 0))) (ISs.cons (IS.par 0 1 (IE.var 1) (IE.bin Operator.Mod (IE.bi BI.int (IEs.cons (IE.var 0) IEs.nil)) (IE.var 1))) ISs.nil) ISs.nil) ISs.nil
def f_law_gcd_1 : IS := IS.for (Tgt.name 2) (Src.rng1 (IE.bin Operator.Add (IE.bin Operator.Mult (IE.int 2) (IE.met0 Me0.bits (IE.bin Operator.Add (IE.var 0) (IE.var 1)))) (IE.int 4))) s_law_gcd_1
def b_law_gcd : ISs := ISs.cons (IS.asg 0 (IE.bi BI.abs (IEs.cons (IE.var 0) IEs.nil))) (ISs.cons (IS.asg 1 (IE.bi BI.abs (IEs.cons (IE.var 1) IEs.nil))) (ISs.cons f_law_gcd_1 (ISs.cons (IS.ret (IE.mov 0)) ISs.nil)))
def b_law_rat : ISs := ISs.cons (IS.ite (IB.val (IE.cmp CmpOp.Lt (IE.var 1) (IE.int 0))) (ISs.cons (IS.asg 0 (IE.neg (IE.var 0))) (ISs.cons (IS.asg 1 (IE.neg (IE.var 1))) ISs.nil)) ISs.nil) (ISs.cons (IS.asg 2 (IE.call 18 (IEs.cons (IE.var 0) (IEs.cons (IE.var 1) IEs.nil)))) (ISs.cons (IS.ret (IE.tup (IEs.cons (IE.bin Operator.FloorDiv (IE.var 0) (IE.var 2)) (IEs.cons (IE.bin Operator.FloorDiv (IE.var 1) (IE.var 2)) IEs.nil)))) ISs.nil))
def b_law_add : ISs := ISs.cons (IS.ret (IE.call 19 (IEs.cons (IE.bin Operator.Add (IE.bin Operator.Mult (IE.ix (IE.var 0) (IE.int 0)) (IE.ix (IE.var 1) (IE.int 1))) (IE.bin Operator.Mult (IE.ix (IE.var 1) (IE.int 0)) (IE.ix (IE.var 0) (IE.int 1)))) (IEs.cons (IE.bin Operator.Mult (IE.ix (IE.var 0) (IE.int 1)) (IE.ix (IE.var 1) (IE.int 1))) IEs.nil)))) ISs.nil
def b_law_mul : ISs := ISs.cons (IS.ret (IE.call 19 (IEs.cons (IE.bin Operator.Mult (IE.ix (IE.var 0) (IE.int 0)) (IE.ix (IE.var 1) (IE.int 0))) (IEs.cons (IE.bin Operator.Mult (IE.ix (IE.var 0) (IE.int 1)) (IE.ix (IE.var 1) (IE.int 1))) IEs.nil)))) ISs.nil
def s_law_is_ratio_1 : ISs := ISs.cons (IS.ite (IB.or (IB.not (IB.val (IE.isin (IE.var 1) ["int"]))) (IB.val (IE.isin (IE.var 1) ["bool"]))) (ISs.cons (IS.ret (IE.bl false)) ISs.nil) ISs.nil) ISs.nil
def f_law_is_ratio_1 : IS := IS.for (Tgt.name 1) (Src.seq (IE.var 0)) s_law_is_ratio_1
def b_law_is_ratio : ISs := ISs.cons (IS.ite (IB.or (IB.not (IB.val (IE.isin (IE.var 0) ["tuple"]))) (IB.val (IE.cmp CmpOp.NotEq (IE.bi BI.len (IEs.cons (IE.var 0) IEs.nil)) (IE.int 2)))) (ISs.cons (IS.ret (IE.bl false)) ISs.nil) ISs.nil) (ISs.cons f_law_is_ratio_1 (ISs.cons (IS.ret (IE.and (IE.cmp CmpOp.GtE (IE.ix (IE.var 0) (IE.int 1)) (IE.int 1)) (IE.cmp CmpOp.Eq (IE.call 18 (IEs.cons (IE.ix (IE.var 0) (IE.int 0)) (IEs.cons (IE.ix (IE.var 0) (IE.int 1)) IEs.nil))) (IE.int 1)))) ISs.nil))
def b_law_rat_text : ISs := ISs.cons (IS.ite (IB.val (IE.cmp CmpOp.Eq (IE.ix (IE.var 0) (IE.int 1)) (IE.int 1))) (ISs.cons (IS.ret (IE.bi BI.str (IEs.cons (IE.ix (IE.var 0) (IE.int 0)) IEs.nil))) ISs.nil) ISs.nil) (ISs.cons (IS.ret (IE.bin Operator.Add (IE.bin Operator.Add (IE.bi BI.str (IEs.cons (IE.ix (IE.var 0) (IE.int 0)) IEs.nil)) (IE.str "/")) (IE.bi BI.str (IEs.cons (IE.ix (IE.var 0) (IE.int 1)) IEs.nil)))) ISs.nil)
def s_law_number_1 : ISs := ISs.cons (IS.asg 2 (IE.bin Operator.Add (IE.bin Operator.Mult (IE.var 2) (IE.int 1000000000000)) (IE.call 15 (IEs.cons (IE.var 0) (IEs.cons (IE.int 1000000000000) IEs.nil))))) ISs.nil
def f_law_number_1 : IS := IS.for (Tgt.name 3) (Src.rng1 (IE.bin Operator.Add (IE.int 1) (IE.call 15 (IEs.cons (IE.var 0) (IEs.cons (IE.int 5) IEs.nil))))) s_law_number_1
def b_law_number : ISs := ISs.cons (IS.asg 1 (IE.call 15 (IEs.cons (IE.var 0) (IEs.cons (IE.int 7) IEs.nil)))) (ISs.cons (IS.ite (IB.val (IE.cmp CmpOp.Lt (IE.var 1) (IE.int 2))) (ISs.cons (IS.ret (IE.call 16 (IEs.cons (IE.var 0) (IEs.cons (IE.neg (IE.int 6)) (IEs.cons (IE.int 6) IEs.nil))))) ISs.nil) ISs.nil) (ISs.cons (IS.ite (IB.val (IE.cmp CmpOp.Eq (IE.var 1) (IE.int 2))) (ISs.cons (IS.ret (IE.bin Operator.Mult (IE.int 60) (IE.call 16 (IEs.cons (IE.var 0) (IEs.cons (IE.neg (IE.int 12)) (IEs.cons (IE.int 12) IEs.nil)))))) ISs.nil) ISs.nil) (ISs.cons (IS.ite (IB.val (IE.cmp CmpOp.Eq (IE.var 1) (IE.int 3))) (ISs.cons (IS.ret (IE.call 16 (IEs.cons (IE.var 0) (IEs.cons (IE.neg (IE.int 1000000)) (IEs.cons (IE.int 1000000) IEs.nil))))) ISs.nil) ISs.nil) (ISs.cons (IS.asg 2 (IE.int 0)) (ISs.cons f_law_number_1 (ISs.cons (IS.ret (IE.ifx (IB.val (IE.cmp CmpOp.Eq (IE.call 15 (IEs.cons (IE.var 0) (IEs.cons (IE.int 2) IEs.nil))) (IE.int 0))) (IE.var 2) (IE.neg (IE.var 2)))) ISs.nil))))))
def b_law_any_ratio : ISs := ISs.cons (IS.asg 1 (IE.call 82 (IEs.cons (IE.var 0) IEs.nil))) (ISs.cons (IS.asg 2 (IE.call 82 (IEs.cons (IE.var 0) IEs.nil))) (ISs.cons (IS.ret (IE.call 19 (IEs.cons (IE.var 1) (IEs.cons (IE.ifx (IB.val (IE.cmp CmpOp.NotEq (IE.var 2) (IE.int 0))) (IE.var 2) (IE.int 1)) IEs.nil)))) ISs.nil))
def b_law_second : ISs := ISs.cons (IS.asg 2 (IE.call 15 (IEs.cons (IE.var 0) (IEs.cons (IE.int 8) IEs.nil)))) (ISs.cons (IS.ite (IB.val (IE.cmp CmpOp.Eq (IE.var 2) (IE.int 0))) (ISs.cons (IS.ret (IE.mov 1)) ISs.nil) ISs.nil) (ISs.cons (IS.ite (IB.val (IE.cmp CmpOp.Eq (IE.var 2) (IE.int 1))) (ISs.cons (IS.ret (IE.tup (IEs.cons (IE.neg (IE.ix (IE.var 1) (IE.int 0))) (IEs.cons (IE.ix (IE.var 1) (IE.int 1)) IEs.nil)))) ISs.nil) ISs.nil) (ISs.cons (IS.ite (IB.val (IE.cmp CmpOp.Eq (IE.var 2) (IE.int 2))) (ISs.cons (IS.ret (IE.call 37 (IEs.cons (IE.var 1) (IEs.cons (IE.tup (IEs.cons (IE.call 17 (IEs.cons (IE.var 0) (IEs.cons (IE.lst (IEs.cons (IE.int 1) (IEs.cons (IE.neg (IE.int 1)) IEs.nil))) IEs.nil))) (IEs.cons (IE.bin Operator.Add (IE.int 1) (IE.call 15 (IEs.cons (IE.var 0) (IEs.cons (IE.int 1000000) IEs.nil)))) IEs.nil))) IEs.nil)))) ISs.nil) ISs.nil) (ISs.cons (IS.ite (IB.and (IB.val (IE.cmp CmpOp.Eq (IE.var 2) (IE.int 3))) (IB.val (IE.cmp CmpOp.NotEq (IE.ix (IE.var 1) (IE.int 0)) (IE.int 0)))) (ISs.cons (IS.ret (IE.call 19 (IEs.cons (IE.ix (IE.var 1) (IE.int 1)) (IEs.cons (IE.ix (IE.var 1) (IE.int 0)) IEs.nil)))) ISs.nil) ISs.nil) (ISs.cons (IS.ite (IB.val (IE.cmp CmpOp.Eq (IE.var 2) (IE.int 4))) (ISs.cons (IS.ret (IE.tup (IEs.cons (IE.int 0) (IEs.cons (IE.int 1) IEs.nil)))) ISs.nil) ISs.nil) (ISs.cons (IS.ret (IE.call 83 (IEs.cons (IE.var 0) IEs.nil))) ISs.nil))))))
def b_law_made : ISs := ISs.cons (IS.asg 2 (IE.call 0 (IEs.cons (IE.var 0) IEs.nil))) (ISs.cons (IS.ite (IB.or (IB.not (IB.val (IE.call 63 (IEs.cons (IE.var 2) IEs.nil)))) (IB.val (IE.cmp CmpOp.NotEq (IE.var 2) (IE.tup (IEs.cons (IE.mov 0) (IEs.cons (IE.int 1) IEs.nil)))))) (ISs.cons (IS.ret (IE.bl false)) ISs.nil) ISs.nil) (ISs.cons (IS.try (ISs.cons (IS.asg 3 (IE.call 0 (IEs.cons (IE.var 0) (IEs.cons (IE.var 1) IEs.nil)))) ISs.nil) "ZeroDivisionError" (ISs.cons (IS.ret (IE.cmp CmpOp.Eq (IE.var 1) (IE.int 0))) ISs.nil)) (ISs.cons (IS.ret (IE.and (IE.cmp CmpOp.NotEq (IE.var 1) (IE.int 0)) (IE.and (IE.call 63 (IEs.cons (IE.var 3) IEs.nil)) (IE.cmp CmpOp.Eq (IE.var 3) (IE.call 19 (IEs.cons (IE.var 0) (IEs.cons (IE.var 1) IEs.nil))))))) ISs.nil)))
def s_law_reckoned_1 : ISs := ISs.cons (IS.ite (IB.or (IB.not (IB.val (IE.call 63 (IEs.cons (IE.ix (IE.var 4) (IE.var 5)) IEs.nil)))) (IB.val (IE.cmp CmpOp.NotEq (IE.ix (IE.var 4) (IE.var 5)) (IE.ix (IE.var 3) (IE.var 5))))) (ISs.cons (IS.ret (IE.bl false)) ISs.nil) ISs.nil) ISs.nil
def f_law_reckoned_1 : IS := IS.for (Tgt.name 5) (Src.rng1 (IE.int 4)) s_law_reckoned_1
def b_law_reckoned : ISs := ISs.cons (IS.asg 2 (IE.tup (IEs.cons (IE.neg (IE.ix (IE.var 1) (IE.int 0))) (IEs.cons (IE.ix (IE.var 1) (IE.int 1)) IEs.nil)))) (ISs.cons (IS.asg 3 (IE.lst (IEs.cons (IE.call 37 (IEs.cons (IE.var 0) (IEs.cons (IE.var 1) IEs.nil))) (IEs.cons (IE.call 37 (IEs.cons (IE.var 0) (IEs.cons (IE.var 2) IEs.nil))) (IEs.cons (IE.call 38 (IEs.cons (IE.var 0) (IEs.cons (IE.var 1) IEs.nil))) (IEs.cons (IE.mov 2) IEs.nil)))))) (ISs.cons (IS.asg 4 (IE.lst (IEs.cons (IE.call 1 (IEs.cons (IE.var 0) (IEs.cons (IE.var 1) IEs.nil))) (IEs.cons (IE.call 55 (IEs.cons (IE.var 0) (IEs.cons (IE.var 1) IEs.nil))) (IEs.cons (IE.call 29 (IEs.cons (IE.var 0) (IEs.cons (IE.var 1) IEs.nil))) (IEs.cons (IE.call 54 (IEs.cons (IE.var 1) IEs.nil)) IEs.nil)))))) (ISs.cons f_law_reckoned_1 (ISs.cons (IS.asg 6 (IE.call 76 (IEs.cons (IE.var 0) (IEs.cons (IE.var 1) IEs.nil)))) (ISs.cons (IS.ite (IB.or (IB.not (IB.val (IE.isin (IE.var 6) ["bool"]))) (IB.val (IE.cmp CmpOp.NotEq (IE.var 6) (IE.cmp CmpOp.Lt (IE.ix (IE.ix (IE.var 3) (IE.int 1)) (IE.int 0)) (IE.int 0))))) (ISs.cons (IS.ret (IE.bl false)) ISs.nil) ISs.nil) (ISs.cons (IS.try (ISs.cons (IS.asg 7 (IE.call 56 (IEs.cons (IE.var 0) (IEs.cons (IE.var 1) IEs.nil)))) ISs.nil) "ZeroDivisionError" (ISs.cons (IS.ret (IE.cmp CmpOp.Eq (IE.ix (IE.var 1) (IE.int 0)) (IE.int 0))) ISs.nil)) (ISs.cons (IS.ite (IB.or (IB.val (IE.cmp CmpOp.Eq (IE.ix (IE.var 1) (IE.int 0)) (IE.int 0))) (IB.not (IB.val (IE.call 63 (IEs.cons (IE.var 7) IEs.nil))))) (ISs.cons (IS.ret (IE.bl false)) ISs.nil) ISs.nil) (ISs.cons (IS.ret (IE.cmp CmpOp.Eq (IE.var 7) (IE.call 19 (IEs.cons (IE.bin Operator.Mult (IE.ix (IE.var 0) (IE.int 0)) (IE.ix (IE.var 1) (IE.int 1))) (IEs.cons (IE.bin Operator.Mult (IE.ix (IE.var 0) (IE.int 1)) (IE.ix (IE.var 1) (IE.int 0))) IEs.nil))))) ISs.nil))))))))
def s_law_row_added_1 : ISs := ISs.cons (IS.asg 1 (IE.call 1 (IEs.cons (IE.var 1) (IEs.cons (IE.var 3) IEs.nil)))) (ISs.cons (IS.asg 2 (IE.call 37 (IEs.cons (IE.var 2) (IEs.cons (IE.var 3) IEs.nil)))) ISs.nil)
def f_law_row_added_1 : IS := IS.for (Tgt.name 3) (Src.seq (IE.var 0)) s_law_row_added_1
def s_law_row_added_2 : ISs := ISs.cons (IS.asg 1 (IE.call 55 (IEs.cons (IE.var 1) (IEs.cons (IE.var 3) IEs.nil)))) ISs.nil
def f_law_row_added_2 : IS := IS.for (Tgt.name 3) (Src.seq (IE.var 0)) s_law_row_added_2
def b_law_row_added : ISs := ISs.cons (IS.asg 1 (IE.glob 0)) (ISs.cons (IS.asg 2 (IE.tup (IEs.cons (IE.int 0) (IEs.cons (IE.int 1) IEs.nil)))) (ISs.cons f_law_row_added_1 (ISs.cons (IS.ite (IB.or (IB.not (IB.val (IE.call 63 (IEs.cons (IE.var 1) IEs.nil)))) (IB.val (IE.cmp CmpOp.NotEq (IE.var 1) (IE.var 2)))) (ISs.cons (IS.ret (IE.bl false)) ISs.nil) ISs.nil) (ISs.cons f_law_row_added_2 (ISs.cons (IS.ret (IE.and (IE.cmp CmpOp.Eq (IE.var 1) (IE.glob 0)) (IE.and (IE.cmp CmpOp.Eq (IE.glob 0) (IE.tup (IEs.cons (IE.int 0) (IEs.cons (IE.int 1) IEs.nil)))) (IE.cmp CmpOp.Eq (IE.glob 1) (IE.tup (IEs.cons (IE.int 1) (IEs.cons (IE.int 1) IEs.nil))))))) ISs.nil)))))
def b_law_figures : ISs := ISs.cons (IS.ret (IE.bi BI.max2 (IEs.cons (IE.bi BI.len (IEs.cons (IE.bi BI.str (IEs.cons (IE.bi BI.abs (IEs.cons (IE.ix (IE.var 0) (IE.int 0)) IEs.nil)) IEs.nil)) IEs.nil)) (IEs.cons (IE.bi BI.len (IEs.cons (IE.bi BI.str (IEs.cons (IE.ix (IE.var 0) (IE.int 1)) IEs.nil)) IEs.nil)) IEs.nil)))) ISs.nil
def s_law_edges_1 : ISs := ISs.cons (IS.asg 3 (IE.bin Operator.Mult (IE.var 3) (IE.int 10))) ISs.nil
def f_law_edges_1 : IS := IS.for (Tgt.name 4) (Src.rng1 (IE.var 1)) s_law_edges_1
def s_law_edges_2 : ISs := ISs.cons (IS.asg 8 (IE.call 80 (IEs.cons (IE.var 6) (IEs.cons (IE.var 7) IEs.nil)))) (ISs.cons (IS.ite (IB.or (IB.not (IB.val (IE.isin (IE.var 8) ["bool"]))) (IB.val (IE.cmp CmpOp.NotEq (IE.var 8) (IE.cmp CmpOp.Gt (IE.call 88 (IEs.cons (IE.var 6) IEs.nil)) (IE.var 7))))) (ISs.cons (IS.ret (IE.bl false)) ISs.nil) ISs.nil) ISs.nil)
def f_law_edges_2 : IS := IS.for (Tgt.name 7) (Src.seq (IE.lst (IEs.cons (IE.bin Operator.Sub (IE.var 1) (IE.int 1)) (IEs.cons (IE.mov 1) (IEs.cons (IE.bin Operator.Add (IE.var 1) (IE.int 1)) (IEs.cons (IE.mov 2) IEs.nil)))))) s_law_edges_2
def s_law_edges_3 : ISs := ISs.cons f_law_edges_2 ISs.nil
def f_law_edges_3 : IS := IS.for (Tgt.name 6) (Src.seq (IE.bin Operator.Add (IE.var 5) (IE.lst (IEs.cons (IE.call 83 (IEs.cons (IE.var 0) IEs.nil)) IEs.nil)))) s_law_edges_3
def b_law_edges : ISs := ISs.cons (IS.asg 1 (IE.call 17 (IEs.cons (IE.var 0) (IEs.cons (IE.lst (IEs.cons (IE.int 6) (IEs.cons (IE.int 200) (IEs.cons (IE.bin Operator.Add (IE.int 1) (IE.call 15 (IEs.cons (IE.var 0) (IEs.cons (IE.int 220) IEs.nil)))) (IEs.cons (IE.bin Operator.Add (IE.int 1) (IE.call 15 (IEs.cons (IE.var 0) (IEs.cons (IE.int 12) IEs.nil)))) IEs.nil))))) IEs.nil)))) (ISs.cons (IS.asg 2 (IE.call 15 (IEs.cons (IE.var 0) (IEs.cons (IE.int 241) IEs.nil)))) (ISs.cons (IS.asg 3 (IE.int 1)) (ISs.cons f_law_edges_1 (ISs.cons (IS.asg 5 (IE.lst (IEs.cons (IE.tup (IEs.cons (IE.bin Operator.Sub (IE.var 3) (IE.int 1)) (IEs.cons (IE.int 1) IEs.nil))) (IEs.cons (IE.tup (IEs.cons (IE.mov 3) (IEs.cons (IE.int 1) IEs.nil))) (IEs.cons (IE.tup (IEs.cons (IE.bin Operator.Sub (IE.int 1) (IE.var 3)) (IEs.cons (IE.int 1) IEs.nil))) (IEs.cons (IE.tup (IEs.cons (IE.neg (IE.var 3)) (IEs.cons (IE.int 1) IEs.nil))) (IEs.cons (IE.tup (IEs.cons (IE.bin Operator.Add (IE.var 3) (IE.int 1)) (IEs.cons (IE.int 1) IEs.nil))) (IEs.cons (IE.tup (IEs.cons (IE.int 1) (IEs.cons (IE.bin Operator.Sub (IE.var 3) (IE.int 1)) IEs.nil))) (IEs.cons (IE.tup (IEs.cons (IE.int 1) (IEs.cons (IE.mov 3) IEs.nil))) IEs.nil))))))))) (ISs.cons (IS.asg 5 (IE.bin Operator.Add (IE.var 5) (IE.lst (IEs.cons (IE.tup (IEs.cons (IE.neg (IE.int 1)) (IEs.cons (IE.bin Operator.Add (IE.var 3) (IE.int 1)) IEs.nil))) (IEs.cons (IE.tup (IEs.cons (IE.bin Operator.Sub (IE.var 3) (IE.int 1)) (IEs.cons (IE.mov 3) IEs.nil))) (IEs.cons (IE.tup (IEs.cons (IE.mov 3) (IEs.cons (IE.bin Operator.Sub (IE.var 3) (IE.int 1)) IEs.nil))) (IEs.cons (IE.tup (IEs.cons (IE.neg (IE.var 3)) (IEs.cons (IE.bin Operator.Add (IE.var 3) (IE.int 1)) IEs.nil))) (IEs.cons (IE.tup (IEs.cons (IE.int 0) (IEs.cons (IE.int 1) IEs.nil))) IEs.nil)))))))) (ISs.cons f_law_edges_3 (ISs.cons (IS.ret (IE.bl true)) ISs.nil)))))))
def s_law_kinds_1 : ISs := ISs.cons (IS.ite (IB.or (IB.val (IE.call 78 (IEs.cons (IE.var 4) IEs.nil))) (IB.val (IE.call 77 (IEs.cons (IE.var 4) IEs.nil)))) (ISs.cons (IS.ret (IE.bl false)) ISs.nil) ISs.nil) ISs.nil
def f_law_kinds_1 : IS := IS.for (Tgt.name 4) (Src.seq (IE.lst (IEs.cons (IE.tup (IEs.cons (IE.bin Operator.Mult (IE.var 1) (IE.var 2)) (IEs.cons (IE.bin Operator.Mult (IE.var 1) (IE.var 3)) IEs.nil))) (IEs.cons (IE.tup (IEs.cons (IE.mov 2) (IEs.cons (IE.neg (IE.var 3)) IEs.nil))) (IEs.cons (IE.tup (IEs.cons (IE.mov 2) (IEs.cons (IE.int 0) IEs.nil))) (IEs.cons (IE.tup (IEs.cons (IE.mov 2) (IEs.cons (IE.mov 3) (IEs.cons (IE.int 1) IEs.nil)))) (IEs.cons (IE.tup (IEs.cons (IE.mov 2) IEs.nil)) (IEs.cons (IE.tup IEs.nil) (IEs.cons (IE.lst (IEs.cons (IE.mov 2) (IEs.cons (IE.mov 3) IEs.nil))) IEs.nil))))))))) s_law_kinds_1
def s_law_kinds_2 : ISs := ISs.cons (IS.ite (IB.or (IB.val (IE.call 78 (IEs.cons (IE.var 4) IEs.nil))) (IB.or (IB.val (IE.call 77 (IEs.cons (IE.var 4) IEs.nil))) (IB.or (IB.val (IE.call 78 (IEs.cons (IE.tup (IEs.cons (IE.mov 4) (IEs.cons (IE.mov 3) IEs.nil))) IEs.nil))) (IB.val (IE.call 78 (IEs.cons (IE.tup (IEs.cons (IE.mov 2) (IEs.cons (IE.mov 4) IEs.nil))) IEs.nil)))))) (ISs.cons (IS.ret (IE.bl false)) ISs.nil) ISs.nil) ISs.nil
def f_law_kinds_2 : IS := IS.for (Tgt.name 4) (Src.seq (IE.lst (IEs.cons IE.non (IEs.cons (IE.bl true) (IEs.cons (IE.bl false) (IEs.cons (IE.str "1") (IEs.cons (IE.str "1/2") IEs.nil))))))) s_law_kinds_2
def b_law_kinds : ISs := ISs.cons (IS.asg 2 (IE.ix (IE.var 0) (IE.int 0))) (ISs.cons (IS.asg 3 (IE.ix (IE.var 0) (IE.int 1))) (ISs.cons (IS.ite (IB.or (IB.not (IB.val (IE.call 78 (IEs.cons (IE.var 0) IEs.nil)))) (IB.or (IB.not (IB.val (IE.call 77 (IEs.cons (IE.var 2) IEs.nil)))) (IB.or (IB.not (IB.val (IE.call 77 (IEs.cons (IE.var 3) IEs.nil)))) (IB.val (IE.call 77 (IEs.cons (IE.var 0) IEs.nil)))))) (ISs.cons (IS.ret (IE.bl false)) ISs.nil) ISs.nil) (ISs.cons f_law_kinds_1 (ISs.cons f_law_kinds_2 (ISs.cons (IS.ret (IE.not (IE.call 78 (IEs.cons (IE.var 2) IEs.nil)))) ISs.nil)))))
def e_law_91_1 : IE := IE.lc (Src.rng1 (IE.bin Operator.Add (IE.int 1) (IE.call 15 (IEs.cons (IE.var 5) (IEs.cons (IE.int 8) IEs.nil))))) (Tgt.name 10) IBO.none (IE.call 83 (IEs.cons (IE.var 5) IEs.nil)) [("step", 10)]
def b_law_91 : ISs := ISs.cons (IS.asg 1 (IE.call 14 (IEs.cons (IE.var 0) (IEs.cons (IE.int 0) IEs.nil)))) (ISs.cons (IS.asg 2 (IE.call 17 (IEs.cons (IE.var 1) (IEs.cons (IE.lst (IEs.cons (IE.int 2) (IEs.cons (IE.int 3) (IEs.cons (IE.int 10) (IEs.cons (IE.neg (IE.int 1)) (IEs.cons (IE.neg (IE.int 7)) (IEs.cons (IE.bin Operator.Add (IE.int 1) (IE.call 15 (IEs.cons (IE.var 1) (IEs.cons (IE.int 1000000) IEs.nil)))) IEs.nil))))))) IEs.nil)))) (ISs.cons (IS.asg 3 (IE.bin Operator.Mult (IE.var 2) (IE.call 82 (IEs.cons (IE.var 1) IEs.nil)))) (ISs.cons (IS.asg 4 (IE.ifx (IB.val (IE.cmp CmpOp.Eq (IE.call 15 (IEs.cons (IE.var 1) (IEs.cons (IE.int 8) IEs.nil))) (IE.int 0))) (IE.int 0) (IE.bin Operator.Mult (IE.var 2) (IE.call 82 (IEs.cons (IE.var 1) IEs.nil))))) (ISs.cons (IS.ite (IB.or (IB.not (IB.val (IE.call 85 (IEs.cons (IE.var 3) (IEs.cons (IE.var 4) IEs.nil))))) (IB.or (IB.not (IB.val (IE.call 85 (IEs.cons (IE.var 3) (IEs.cons (IE.int 0) IEs.nil))))) (IB.not (IB.val (IE.call 85 (IEs.cons (IE.int 0) (IEs.cons (IE.var 4) IEs.nil))))))) (ISs.cons (IS.ret (IE.bl false)) ISs.nil) ISs.nil) (ISs.cons (IS.asg 5 (IE.call 14 (IEs.cons (IE.var 0) (IEs.cons (IE.int 1) IEs.nil)))) (ISs.cons (IS.asg 6 (IE.call 83 (IEs.cons (IE.var 5) IEs.nil))) (ISs.cons (IS.asg 7 (IE.call 84 (IEs.cons (IE.var 5) (IEs.cons (IE.var 6) IEs.nil)))) (ISs.cons (IS.ite (IB.or (IB.not (IB.val (IE.call 86 (IEs.cons (IE.var 6) (IEs.cons (IE.var 7) IEs.nil))))) (IB.or (IB.not (IB.val (IE.call 86 (IEs.cons (IE.var 7) (IEs.cons (IE.var 6) IEs.nil))))) (IB.not (IB.val (IE.call 86 (IEs.cons (IE.var 6) (IEs.cons (IE.var 6) IEs.nil))))))) (ISs.cons (IS.ret (IE.bl false)) ISs.nil) ISs.nil) (ISs.cons (IS.ite (IB.or (IB.val (IE.cmp CmpOp.NotEq (IE.call 79 (IEs.cons (IE.var 6) IEs.nil)) (IE.call 81 (IEs.cons (IE.var 6) IEs.nil)))) (IB.val (IE.cmp CmpOp.NotEq (IE.call 79 (IEs.cons (IE.var 7) IEs.nil)) (IE.call 81 (IEs.cons (IE.var 7) IEs.nil))))) (ISs.cons (IS.ret (IE.bl false)) ISs.nil) ISs.nil) (ISs.cons (IS.asg 8 e_law_91_1) (ISs.cons (IS.ite (IB.or (IB.not (IB.val (IE.call 87 (IEs.cons (IE.var 8) IEs.nil)))) (IB.not (IB.val (IE.call 87 (IEs.cons (IE.lst (IEs.cons (IE.mov 6) (IEs.cons (IE.mov 7) (IEs.cons (IE.tup (IEs.cons (IE.neg (IE.ix (IE.var 6) (IE.int 0))) (IEs.cons (IE.ix (IE.var 6) (IE.int 1)) IEs.nil))) IEs.nil)))) IEs.nil))))) (ISs.cons (IS.ret (IE.bl false)) ISs.nil) ISs.nil) (ISs.cons (IS.asg 9 (IE.call 14 (IEs.cons (IE.var 0) (IEs.cons (IE.int 2) IEs.nil)))) (ISs.cons (IS.ret (IE.and (IE.call 89 (IEs.cons (IE.var 9) IEs.nil)) (IE.and (IE.call 90 (IEs.cons (IE.var 6) (IEs.cons (IE.bin Operator.Add (IE.int 2) (IE.call 15 (IEs.cons (IE.var 9) (IEs.cons (IE.int 9) IEs.nil)))) IEs.nil))) (IE.call 90 (IEs.cons (IE.var 7) (IEs.cons (IE.int 2) IEs.nil)))))) ISs.nil)))))))))))))
def Pr : Nat → Option FnI
  | 28 => some ⟨2, 2, b_common⟩
  | 0 => some ⟨2, 3, b_ratio⟩
  | 1 => some ⟨2, 2, b_plus⟩
  | 54 => some ⟨1, 1, b_negated⟩
  | 55 => some ⟨2, 2, b_minus⟩
  | 29 => some ⟨2, 2, b_times⟩
  | 56 => some ⟨2, 2, b_over⟩
  | 76 => some ⟨2, 2, b_below⟩
  | 77 => some ⟨1, 1, b_is_whole⟩
  | 78 => some ⟨1, 1, b_is_ratio⟩
  | 79 => some ⟨1, 1, b_ratio_text⟩
  | 80 => some ⟨2, 5, b_exceeds⟩
  | 13 => some ⟨2, 4, b_law_mix⟩
  | 14 => some ⟨2, 7, b_law_jar⟩
  | 15 => some ⟨2, 3, b_law_draw⟩
  | 16 => some ⟨3, 3, b_law_between⟩
  | 17 => some ⟨2, 2, b_law_pick⟩
  | 18 => some ⟨2, 3, b_law_gcd⟩
  | 19 => some ⟨2, 3, b_law_rat⟩
  | 37 => some ⟨2, 2, b_law_add⟩
  | 38 => some ⟨2, 2, b_law_mul⟩
  | 63 => some ⟨1, 2, b_law_is_ratio⟩
  | 81 => some ⟨1, 1, b_law_rat_text⟩
  | 82 => some ⟨1, 4, b_law_number⟩
  | 83 => some ⟨1, 3, b_law_any_ratio⟩
  | 84 => some ⟨2, 3, b_law_second⟩
  | 85 => some ⟨2, 4, b_law_made⟩
  | 86 => some ⟨2, 8, b_law_reckoned⟩
  | 87 => some ⟨1, 4, b_law_row_added⟩
  | 88 => some ⟨1, 1, b_law_figures⟩
  | 89 => some ⟨1, 9, b_law_edges⟩
  | 90 => some ⟨2, 5, b_law_kinds⟩
  | 91 => some ⟨1, 11, b_law_91⟩
  | _ => none
def G0 : Nat → T
  | 0 => .tup [.int 0, .int 1]
  | 1 => .tup [.int 1, .int 1]
  | _ => .non
def D0 : Nat → Nat → List T
  | 0, 1 => [.int 1]
  | _, _ => []
@[simp] theorem D0_28_2 : D0 28 2 = [] := rfl
@[simp] theorem D0_0_2 : D0 0 2 = [] := rfl
@[simp] theorem D0_1_2 : D0 1 2 = [] := rfl
@[simp] theorem D0_54_1 : D0 54 1 = [] := rfl
@[simp] theorem D0_55_2 : D0 55 2 = [] := rfl
@[simp] theorem D0_29_2 : D0 29 2 = [] := rfl
@[simp] theorem D0_56_2 : D0 56 2 = [] := rfl
@[simp] theorem D0_76_2 : D0 76 2 = [] := rfl
@[simp] theorem D0_77_1 : D0 77 1 = [] := rfl
@[simp] theorem D0_78_1 : D0 78 1 = [] := rfl
@[simp] theorem D0_79_1 : D0 79 1 = [] := rfl
@[simp] theorem D0_80_2 : D0 80 2 = [] := rfl
@[simp] theorem D0_13_2 : D0 13 2 = [] := rfl
@[simp] theorem D0_14_2 : D0 14 2 = [] := rfl
@[simp] theorem D0_15_2 : D0 15 2 = [] := rfl
@[simp] theorem D0_16_3 : D0 16 3 = [] := rfl
@[simp] theorem D0_17_2 : D0 17 2 = [] := rfl
@[simp] theorem D0_18_2 : D0 18 2 = [] := rfl
@[simp] theorem D0_19_2 : D0 19 2 = [] := rfl
@[simp] theorem D0_37_2 : D0 37 2 = [] := rfl
@[simp] theorem D0_38_2 : D0 38 2 = [] := rfl
@[simp] theorem D0_63_1 : D0 63 1 = [] := rfl
@[simp] theorem D0_81_1 : D0 81 1 = [] := rfl
@[simp] theorem D0_82_1 : D0 82 1 = [] := rfl
@[simp] theorem D0_83_1 : D0 83 1 = [] := rfl
@[simp] theorem D0_84_2 : D0 84 2 = [] := rfl
@[simp] theorem D0_85_2 : D0 85 2 = [] := rfl
@[simp] theorem D0_86_2 : D0 86 2 = [] := rfl
@[simp] theorem D0_87_1 : D0 87 1 = [] := rfl
@[simp] theorem D0_88_1 : D0 88 1 = [] := rfl
@[simp] theorem D0_89_1 : D0 89 1 = [] := rfl
@[simp] theorem D0_90_2 : D0 90 2 = [] := rfl
@[simp] theorem D0_91_1 : D0 91 1 = [] := rfl
@[simp] theorem D0_0_1 : D0 0 1 = [.int 1] := rfl
@[simp] theorem G0_0 : G0 0 = .tup [.int 0, .int 1] := rfl
@[simp] theorem G0_1 : G0 1 = .tup [.int 1, .int 1] := rfl
end G
namespace G
open PySem PySem.Spec PyProof.Rows L2

/-! # the law's jar -/
structure Jar where
  a : Int
  b : Int
  c : Int
def jarO (j : Jar) : Ow := .lst [.int j.a, .int j.b, .int j.c]
def mix1 (n t : Int) : Int := ((n + 11) * 6364136223846793005 + (t + 3) * 1442695040888963407) % 18446744073709551557
def mixv (n t : Int) : Int := ((mix1 n t * (mix1 n t + 2 * t + 5) + 7046029254386353131) % 18446744073709551533) / 65536
def drawV (j : Jar) (m : Int) : Int := if 0 < j.a then j.a % m else mixv j.c (j.b + 1) % m
def drawJ (j : Jar) (m : Int) : Jar := if 0 < j.a then ⟨j.a / m, j.b + 1, j.c⟩ else ⟨j.a, j.b + 1, j.c⟩
theorem drawV_nonneg (j : Jar) {m : Int} (h : 0 < m) : 0 ≤ drawV j m := by
  unfold drawV; split <;> exact Int.emod_nonneg _ (by omega)
theorem drawV_lt (j : Jar) {m : Int} (h : 0 < m) : drawV j m < m := by
  unfold drawV; split <;> exact Int.emod_lt_of_pos _ h
variable (k L : Nat)
theorem mix_spec (n t : Int) : callF Pr G0 D0 L (k + 1) 13 [.val (.int n), .val (.int t)] = .ok (.val (.int (mixv n t))) [.val (.int n), .val (.int t)] := by
  rw [callF_succ (f := ⟨2, 4, b_law_mix⟩) rfl rfl]
  have h1 := Int.emod_nonneg ((n + 11) * 6364136223846793005 + (t + 3) * 1442695040888963407) (b := 18446744073709551557) (by decide)
  have h2 := Int.emod_lt_of_pos ((n + 11) * 6364136223846793005 + (t + 3) * 1442695040888963407) (b := 18446744073709551557) (by decide)
  unfold mixv mix1
  generalize hm : ((n + 11) * 6364136223846793005 + (t + 3) * 1442695040888963407) % 18446744073709551557 = m at h1 h2
  have m1 : mulOk m (m + 2 * t + 5) = true := mulOk_l (by omega)
  simp [b_law_mix, mulOk_r (i := n + 11) (j := 6364136223846793005) (by omega), mulOk_r (i := t + 3) (j := 1442695040888963407) (by omega), mulOk_l (i := 2) (j := t) (by omega), hm, m1, (by decide : Nat.log2 65536 < 9000)]
theorem draw_spec (j : Jar) (m : Int) (hm : 0 < m) (hl : m.natAbs.log2 < 9000) :
    callF Pr G0 D0 L (k + 2) 15 [.own (jarO j), .val (.int m)] = .ok (.val (.int (drawV j m))) [.own (jarO (drawJ j m)), .val (.int m)] := by
  rw [callF_succ (f := ⟨2, 3, b_law_draw⟩) rfl rfl]
  by_cases h : 0 < j.a
  · simp [b_law_draw, jarO, drawV, drawJ, h, hm, hl]
  · simp [b_law_draw, jarO, drawV, drawJ, h, hm, hl, mix_spec]
theorem small_log {m : Int} (h : 0 < m) (h2 : m ≤ 2 ^ 100) : m.natAbs.log2 < 9000 := by
  have h3 : m.natAbs < 2 ^ 101 := by omega
  have : m.natAbs.log2 < 101 := (Nat.log2_lt (by omega)).mpr h3
  omega
/-- a draw by a written number -/
theorem draw_n (j : Jar) (m : Int) (h : 0 < m ∧ m ≤ 2 ^ 100) : callF Pr G0 D0 L (k + 2) 15 [.own (jarO j), .val (.int m)] = .ok (.val (.int (drawV j m))) [.own (jarO (drawJ j m)), .val (.int m)] := draw_spec k L j m h.1 (small_log h.1 h.2)
theorem between_spec (j : Jar) (lo hi : Int) (h : lo ≤ hi) (hl : hi - lo < 2 ^ 100) :
    callF Pr G0 D0 L (k + 3) 16 [.own (jarO j), .val (.int lo), .val (.int hi)] = .ok (.val (.int (lo + drawV j (hi - lo + 1)))) [.own (jarO (drawJ j (hi - lo + 1))), .val (.int lo), .val (.int hi)] := by
  rw [callF_succ (f := ⟨3, 3, b_law_between⟩) rfl rfl]
  have hd := draw_n k L j (hi - lo + 1) (by omega)
  have hj : ∀ z, jarO z = .lst [.int z.a, .int z.b, .int z.c] := fun _ => rfl
  simp [b_law_between, hd]
theorem pick_at {xs : List T} {d : Int} (h0 : 0 ≤ d) (h : d < xs.length) : ∃ x, xs[d.toNat]? = some x ∧ x ∈ xs := by
  have : d.toNat < xs.length := by omega
  exact ⟨xs[d.toNat], List.getElem?_eq_getElem this, List.getElem_mem this⟩
def pickV (j : Jar) (xs : List T) : T := xs.getD (drawV j xs.length).toNat .non
theorem pickV_mem (j : Jar) {xs : List T} (h : 0 < xs.length) : pickV j xs ∈ xs := by
  have h1 := drawV_nonneg j (m := xs.length) (by omega)
  have h2 := drawV_lt j (m := xs.length) (by omega)
  unfold pickV
  rw [List.getD_eq_getElem?_getD, List.getElem?_eq_getElem (by omega)]
  exact List.getElem_mem _
theorem pick_get (j : Jar) {xs : List T} (h : 0 < xs.length) : xs[(drawV j xs.length).toNat]? = some (pickV j xs) := by
  have h1 := drawV_nonneg j (m := xs.length) (by omega)
  have h2 := drawV_lt j (m := xs.length) (by omega)
  unfold pickV
  rw [List.getD_eq_getElem?_getD, List.getElem?_eq_getElem (by omega)]
  rfl
theorem pick_spec (j : Jar) (iv : Iv) (xs : List T) (hx : iv = .own (.lst xs) ∨ iv = .lck (.lst xs) ∨ iv = .val (.lst xs) ∨ iv = .val (.tup xs)) (h : 0 < xs.length) (h2 : xs.length ≤ 100000) :
    callF Pr G0 D0 L (k + 3) 17 [.own (jarO j), iv] = .ok (.val (pickV j xs)) [.own (jarO (drawJ j xs.length)), iv] := by
  rw [callF_succ (f := ⟨2, 2, b_law_pick⟩) rfl rfl]
  have hd := draw_n k L j xs.length (by omega)
  have h1 := drawV_nonneg j (m := xs.length) (by omega)
  have h3 := drawV_lt j (m := xs.length) (by omega)
  have hp : ∀ q : (drawV j xs.length).toNat < xs.length, xs[(drawV j xs.length).toNat]'q = pickV j xs := fun q => by
    have := pick_get j h
    rw [List.getElem?_eq_getElem q] at this
    exact Option.some.inj this
  rcases hx with rfl | rfl | rfl | rfl <;> simp [b_law_pick, hd, h1, h3, hp]
theorem cut63 (ns : List Int) (hn : ns.length ≤ 63) : cutT (ns.map T.int) none (some 63) = ns.map T.int := by
  unfold cutT
  have e1 : HT.sIx (ns.map T.int).length 0 none = 0 := HT.sIx_none _ _
  have e2 : HT.sIx (ns.map T.int).length (ns.map T.int).length (some 63) = (ns.map T.int).length := by
    rw [show (some (63 : Int)) = some ((63 : Nat) : Int) from rfl, HT.sIx_nat]
    simp; omega
  rw [e1, e2, List.drop_zero, Nat.sub_zero, List.take_length]
theorem jar_spec (ns : List Int) (p : Int) (hn : ns.length ≤ 63) (hp : 0 ≤ p) : ∃ j : Jar,
    callF Pr G0 D0 L (k + 1) 14 [.val (.rlst (ns.map T.int)), .val (.int p)] = .ok (.own (jarO j)) [.val (.rlst (ns.map T.int)), .val (.int p)] := by
  have h63 : (63 : Nat) < sizeLine := by decide
  rw [callF_succ (f := ⟨2, 7, b_law_jar⟩) rfl rfl]
  have hlc : ev (callF Pr G0 D0 L k) G0 D0 e_law_jar_1 [some (.val (.rlst (ns.map T.int))), some (.val (.int p)), none, none, none, none, none] = .ok (.new (.lst (ns.map T.int))) [some (.val (.rlst (ns.map T.int))), some (.val (.int p)), none, none, none, none, none] :=
    lc_map (xs := ns) (f := T.int) (lk := none) (e1 := [some (.val (.rlst (ns.map T.int))), some (.val (.int p)), none, none, none, none, none]) _ T.int (by simp [cut63 ns hn]) rfl (fun i hi => ⟨_, _, by simp; rfl, by simp; rfl, by simp⟩) (by omega)
  obtain ⟨e', hl, c, he'⟩ := forL_st (fx := fxOf [.val (.rlst (ns.map T.int)), .val (.int p)]) (tg := .name 4) (body := xcs (callF Pr G0 D0 L k) G0 D0 (fxOf [.val (.rlst (ns.map T.int)), .val (.int p)]) L s_law_jar_2) (f := T.int) (xs := ns)
    (fun (tot : Int) e => ∃ c : Option Iv, e = [some (.val (.rlst (ns.map T.int))), some (.val (.int p)), some (.lck (.lst (ns.map T.int))), some (.val (.int tot)), c, none, none]) (fun tot i => (tot * 31 + if i < 0 then -i else i) % 1000003)
    (s := 17 + 7919 * p) (e := [some (.val (.rlst (ns.map T.int))), some (.val (.int p)), some (.lck (.lst (ns.map T.int))), some (.val (.int (17 + 7919 * p))), none, none, none]) (fun i hi tot e ⟨c, he⟩ => by
      subst he
      exact ⟨_, _, by simp; rfl, by simp [s_law_jar_2, mulOk_r (i := tot) (j := 31) (by omega)]; rfl, _, rfl⟩) ⟨_, rfl⟩
  subst he'
  generalize ns.foldl (fun tot i => (tot * 31 + if i < 0 then -i else i) % 1000003) (17 + 7919 * p) = tot at hl
  have hfor : xc (callF Pr G0 D0 L k) G0 D0 (fxOf [.val (.rlst (ns.map T.int)), .val (.int p)]) L f_law_jar_2 [some (.val (.rlst (ns.map T.int))), some (.val (.int p)), some (.own (.lst (ns.map T.int))), some (.val (.int (17 + 7919 * p))), none, none, none] = _ :=
    for_ok (items := ns.map T.int) (lk := some 2) (e1 := [some (.val (.rlst (ns.map T.int))), some (.val (.int p)), some (.own (.lst (ns.map T.int))), some (.val (.int (17 + 7919 * p))), none, none, none]) (by simp) hl
  simp at hfor
  have hm := mulOk_l (i := 7919) (j := p) (by omega)
  by_cases hle : (ns.length : Int) ≤ p
  · exact ⟨⟨0, 0, tot⟩, by simp [b_law_jar, hlc, hm, hfor, hle, jarO]⟩
  · have hlt : p < ns.length := by omega
    have hlt' : p.toNat < ns.length := by omega
    by_cases hq : ns[p.toNat] < 0
    · by_cases hbig : (1000000000000000000 : Int) ≤ -ns[p.toNat]
      · exact ⟨⟨-ns[p.toNat], 0, 2 * -ns[p.toNat] + 1⟩, by simp [b_law_jar, hlc, hm, hfor, hle, hp, hlt, hlt', hq, hbig, jarO]⟩
      · exact ⟨⟨0, 0, 2 * -ns[p.toNat] + 1 + 1000003 * p⟩, by simp [b_law_jar, hlc, hm, hfor, hle, hp, hlt, hlt', hq, hbig, jarO]⟩
    · by_cases hbig : (1000000000000000000 : Int) ≤ ns[p.toNat]
      · exact ⟨⟨ns[p.toNat], 0, 2 * ns[p.toNat] + 0⟩, by simp [b_law_jar, hlc, hm, hfor, hle, hp, hlt, hlt', hq, hbig, jarO]⟩
      · exact ⟨⟨0, 0, 2 * ns[p.toNat] + 0 + 1000003 * p⟩, by simp [b_law_jar, hlc, hm, hfor, hle, hp, hlt, hlt', hq, hbig, jarO]⟩
end G
namespace G
open PySem PySem.Spec PyProof.Rows L2

/-! # ratios, as the texts reckon them -/
variable (k L : Nat)
theorem gcd_spec (a b : Int) (ha : a.natAbs < 2 ^ 9000) (hb : b.natAbs < 2 ^ 9000) :
    callF Pr G0 D0 L (k + 1) 18 [.val (.int a), .val (.int b)] = .ok (.val (.int (Int.gcd a b : Nat))) [.val (.int a), .val (.int b)] := by
  rw [callF_succ (f := ⟨2, 3, b_law_gcd⟩) rfl rfl]
  have ea : (if a < 0 then -a else a) = (a.natAbs : Int) := by split <;> omega
  have eb : (if b < 0 then -b else b) = (b.natAbs : Int) := by split <;> omega
  have hg : Int.gcd a b = Nat.gcd a.natAbs b.natAbs := rfl
  rw [hg]
  generalize a.natAbs = x at *
  generalize b.natAbs = y at *
  have hz : (x + y : Nat) < 2 ^ 9001 := nat_lt_add ha hb
  have hbits : ∃ z : Nat, Builtin.Int.intBits ((x : Int) + (y : Int)) = z ∧ z ≤ 9001 ∧ y < 2 ^ z := by
    refine ⟨_, rfl, ?_⟩
    unfold Builtin.Int.intBits
    by_cases h0 : (x : Int) + (y : Int) = 0
    · rw [if_pos (by simpa using h0)]
      exact ⟨by omega, by show y < 1; omega⟩
    · rw [if_neg (by simpa using h0)]
      have e : ((x : Int) + (y : Int)).natAbs = x + y := by omega
      rw [e]
      have h1 := log_lt hz (by decide)
      refine ⟨by omega, ?_⟩
      have := Nat.lt_log2_self (n := x + y)
      omega
  obtain ⟨z, hz1, hz2, hz3⟩ := hbits
  obtain ⟨e', hl, c, he'⟩ := forL_st (fx := fxOf [.val (.int a), .val (.int b)]) (tg := .name 2) (body := xcs (callF Pr G0 D0 L k) G0 D0 (fxOf [.val (.int a), .val (.int b)]) L s_law_gcd_1) (f := fun (t : Nat) => T.int (0 + (t : Int))) (xs := List.range (2 * z + 4))
    (fun (p : Nat × Nat) e => ∃ c : Option Iv, e = [some (.val (.int p.1)), some (.val (.int p.2)), c]) (fun p _ => if p.2 ≠ 0 then (p.2, p.1 % p.2) else p)
    (s := (x, y)) (e := [some (.val (.int x)), some (.val (.int y)), none]) (fun t ht p e ⟨c, he⟩ => by
      subst he
      obtain ⟨p1, p2⟩ := p
      by_cases h : p2 = 0
      · subst h
        exact ⟨_, _, by simp; rfl, by simp [s_law_gcd_1]; rfl, _, rfl⟩
      · have hp : 0 < p2 := by omega
        exact ⟨_, _, by simp; rfl, by simp [s_law_gcd_1, h, hp]; rfl, _, by simp [h]; rfl⟩) ⟨_, rfl⟩
  have hf : ∀ (n : Nat) (p : Nat × Nat), (List.range n).foldl (fun p (_ : Nat) => if p.2 ≠ 0 then (p.2, p.1 % p.2) else p) p = eucl n p := by
    intro n
    induction n with
    | zero => intro p; rfl
    | succ n ih =>
      intro p
      rw [List.range_succ_eq_map, List.foldl_cons, List.foldl_map]
      exact ih _
  rw [hf, eucl_gcd z _ _ _ hz3 (by omega)] at he'
  subst he'
  have hsrc : evSrc (callF Pr G0 D0 L k) G0 D0 (.rng1 (IE.bin Operator.Add (IE.bin Operator.Mult (IE.int 2) (IE.met0 Me0.bits (IE.bin Operator.Add (IE.var 0) (IE.var 1)))) (IE.int 4))) [some (.val (.int x)), some (.val (.int y)), none] = .ok ((List.range (2 * z + 4)).map (fun k => T.int (0 + (k : Nat))), none) [some (.val (.int x)), some (.val (.int y)), none] :=
    src_rng1 (by simp [met0R, hz1]) (by omega)
  have hfor := for_ok (L := L) hsrc hl
  have hfor : xc (callF Pr G0 D0 L k) G0 D0 (fxOf [.val (.int a), .val (.int b)]) L f_law_gcd_1 [some (.val (.int x)), some (.val (.int y)), none] = _ := hfor
  simp at hfor
  simp [b_law_gcd, ea, eb, hfor]
theorem rat_spec (n d : Int) (hd : d ≠ 0) (hn : n.natAbs < 2 ^ 9000) (hm : d.natAbs < 2 ^ 9000) :
    callF Pr G0 D0 L (k + 2) 19 [.val (.int n), .val (.int d)] = .ok (.val (rt (Rat.divInt n d))) [.val (.int n), .val (.int d)] := by
  rw [callF_succ (f := ⟨2, 3, b_law_rat⟩) rfl rfl]
  have main : ∀ n d : Int, 0 < d → n.natAbs < 2 ^ 9000 → d.natAbs < 2 ^ 9000 → 0 < ((Int.gcd n d : Nat) : Int) ∧ ((Int.gcd n d : Nat) : Int).natAbs.log2 < 9000 := fun n d h1 h2 h3 => by
    have hp : 0 < Int.gcd n d := Int.gcd_pos_of_ne_zero_right _ (by omega)
    refine ⟨by omega, ?_⟩
    have h4 : Int.gcd n d ≤ d.natAbs := Nat.gcd_le_right _ (by omega)
    rw [Int.natAbs_natCast]
    exact log_lt (Nat.lt_of_le_of_lt h4 h3) (by decide)
  by_cases h : d < 0
  · have e := divInt_flip n d
    have h1 : 0 < -d := by omega
    have q1 : (-n).natAbs < 2 ^ 9000 := by rw [Int.natAbs_neg]; exact hn
    have q2 : (-d).natAbs < 2 ^ 9000 := by rw [Int.natAbs_neg]; exact hm
    obtain ⟨g1, g2⟩ := main (-n) (-d) h1 q1 q2
    obtain ⟨r1, r2⟩ := divInt_eq (n := -n) h1
    have hg := gcd_spec k L (-n) (-d) q1 q2
    rw [e]
    generalize ((Int.gcd (-n) (-d) : Nat) : Int) = g at hg g1 g2 r1 r2
    simp [b_law_rat, h, hg, g1, g2, rt, r1, r2]
  · have h1 : 0 < d := by omega
    obtain ⟨g1, g2⟩ := main n d h1 hn hm
    obtain ⟨r1, r2⟩ := divInt_eq (n := n) h1
    have hg := gcd_spec k L n d hn hm
    generalize ((Int.gcd n d : Nat) : Int) = g at hg g1 g2 r1 r2
    simp [b_law_rat, h, hg, g1, g2, rt, r1, r2]
theorem ratio_spec (n d : Int) (hd : d ≠ 0) (hm : d.natAbs < 2 ^ 9000) :
    callF Pr G0 D0 L (k + 1) 0 [.val (.int n), .val (.int d)] = .ok (.val (rt (Rat.divInt n d))) [.val (.int n), .val (.int d)] := by
  rw [callF_succ (f := ⟨2, 3, b_ratio⟩) rfl rfl]
  have main : ∀ n d : Int, 0 < d → d.natAbs < 2 ^ 9000 → 0 < ((Int.gcd n d : Nat) : Int) ∧ ((Int.gcd n d : Nat) : Int).natAbs.log2 < 9000 := fun n d h1 h3 => by
    have hp : 0 < Int.gcd n d := Int.gcd_pos_of_ne_zero_right _ (by omega)
    refine ⟨by omega, ?_⟩
    have h4 : Int.gcd n d ≤ d.natAbs := Nat.gcd_le_right _ (by omega)
    rw [Int.natAbs_natCast]
    exact log_lt (Nat.lt_of_le_of_lt h4 h3) (by decide)
  have hg : ∀ n d : Int, ((Nat.gcd n.natAbs d.natAbs : Nat) : Int) = ((Int.gcd n d : Nat) : Int) := fun _ _ => rfl
  by_cases h : d < 0
  · have e := divInt_flip n d
    have h1 : 0 < -d := by omega
    have q2 : (-d).natAbs < 2 ^ 9000 := by rw [Int.natAbs_neg]; exact hm
    obtain ⟨g1, g2⟩ := main (-n) (-d) h1 q2
    obtain ⟨r1, r2⟩ := divInt_eq (n := -n) h1
    rw [e]
    have hG : (((-n).natAbs.gcd (-d).natAbs : Nat) : Int) = ((Int.gcd (-n) (-d) : Nat) : Int) := rfl
    rw [Int.natAbs_neg, Int.natAbs_neg] at hG
    generalize ((Int.gcd (-n) (-d) : Nat) : Int) = g at hG g1 g2 r1 r2
    simp [b_ratio, hd, h, g1, g2, rt, r1, r2, hG]
  · have h1 : 0 < d := by omega
    obtain ⟨g1, g2⟩ := main n d h1 hm
    obtain ⟨r1, r2⟩ := divInt_eq (n := n) h1
    have hG := hg n d
    generalize ((Int.gcd n d : Nat) : Int) = g at hG g1 g2 r1 r2
    simp [b_ratio, hd, h, g1, g2, rt, r1, r2, hG]
theorem plus_core (an ad bn bd sn sd : Int) (h1 : ¬ ad = 1) (m1 : mulOk an bd = true) (m2 : mulOk bn ad = true) (m3 : mulOk ad bd = true)
  (hr : callF Pr G0 D0 L (k + 1) 0 [.val (.int (an * bd + bn * ad)), .val (.int (ad * bd))] = .ok (.val (.tup [.int sn, .int sd])) [.val (.int (an * bd + bn * ad)), .val (.int (ad * bd))]) :
    callF Pr G0 D0 L (k + 2) 1 [.val (.tup [.int an, .int ad]), .val (.tup [.int bn, .int bd])] = .ok (.val (.tup [.int sn, .int sd])) [.val (.tup [.int an, .int ad]), .val (.tup [.int bn, .int bd])] := by
  rw [callF_succ (f := ⟨2, 2, b_plus⟩) rfl rfl]
  simp [b_plus, h1, hr, m1, m2, m3]
theorem plus_core2 (an ad bn bd sn sd : Int) (h1 : ad = 1) (h2 : ¬ bd = 1) (m1 : mulOk an bd = true) (m2 : mulOk bn ad = true) (m3 : mulOk ad bd = true)
  (hr : callF Pr G0 D0 L (k + 1) 0 [.val (.int (an * bd + bn * ad)), .val (.int (ad * bd))] = .ok (.val (.tup [.int sn, .int sd])) [.val (.int (an * bd + bn * ad)), .val (.int (ad * bd))]) :
    callF Pr G0 D0 L (k + 2) 1 [.val (.tup [.int an, .int ad]), .val (.tup [.int bn, .int bd])] = .ok (.val (.tup [.int sn, .int sd])) [.val (.tup [.int an, .int ad]), .val (.tup [.int bn, .int bd])] := by
  rw [callF_succ (f := ⟨2, 2, b_plus⟩) rfl rfl]
  subst h1
  simp at hr
  simp [b_plus, h2, hr, m1, m2, m3]
theorem plus_core3 (an ad bn bd sn sd : Int) (h1 : ad = 1) (h2 : bd = 1) (e1 : sn = an + bn) (e2 : sd = 1) :
    callF Pr G0 D0 L (k + 2) 1 [.val (.tup [.int an, .int ad]), .val (.tup [.int bn, .int bd])] = .ok (.val (.tup [.int sn, .int sd])) [.val (.tup [.int an, .int ad]), .val (.tup [.int bn, .int bd])] := by
  rw [callF_succ (f := ⟨2, 2, b_plus⟩) rfl rfl]
  subst h1 h2 e1 e2
  simp [b_plus]
theorem plus_spec (a b : Rat) {n m : Nat} (ha : Rsz a n) (hb : Rsz b m) (hn : 0 < n) (hm : 0 < m) (h : n + m ≤ 9000) :
    callF Pr G0 D0 L (k + 2) 1 [.val (rt a), .val (rt b)] = .ok (.val (rt (a + b))) [.val (rt a), .val (rt b)] := by
  have hp : (a.den : Int) * b.den ≠ 0 := by
    have := Int.mul_pos (den_pos' a) (den_pos' b)
    omega
  have h3 : ((a.den : Int) * b.den).natAbs < 2 ^ 9000 := Nat.lt_of_lt_of_le (natAbs_lt_mul (n := n) (m := m) (by simpa using ha.2) (by simpa using hb.2)) (Nat.pow_le_pow_right (by decide) h)
  have hr := ratio_spec k L (a.num * b.den + b.num * a.den) (a.den * b.den) hp h3
  rw [← add_divInt] at hr
  have m1 : mulOk a.num b.den = true := mulOk_sz ha.1 (by simpa using hb.2) hn hm (by omega)
  have m2 : mulOk b.num a.den = true := mulOk_sz hb.1 (by simpa using ha.2) hm hn (by omega)
  have m3 : mulOk a.den b.den = true := mulOk_sz (a := a.den) (b := b.den) (by simpa using ha.2) (by simpa using hb.2) hn hm (by omega)
  clear h3
  by_cases h1 : (a.den : Int) = 1
  · by_cases h2 : (b.den : Int) = 1
    · have e : (a + b).num = a.num + b.num ∧ ((a + b).den : Int) = 1 := by
        rw [add_divInt, h1, h2]
        simp only [Int.mul_one]
        obtain ⟨p1, p2⟩ := divInt_eq (n := a.num + b.num) (d := 1) (by decide)
        rw [p1, p2]
        simp
      exact plus_core3 k L _ _ _ _ _ _ h1 h2 e.1 e.2
    · exact plus_core2 k L _ _ _ _ _ _ h1 h2 m1 m2 m3 hr
  · exact plus_core k L _ _ _ _ _ _ h1 m1 m2 m3 hr
end G
namespace G
open PySem PySem.Spec PyProof.Rows L2

/-! # the rest of the ratio defs -/
@[simp] theorem eqR_pair (a b c d : Int) : eqR (.tup [.int a, .int b]) (.tup [.int c, .int d]) = some (decide (a = c) && decide (b = d)) := by
  have : eqR (.tup [.int a, .int b]) (.tup [.int c, .int d]) = some ((a == c) && ((b == d) && true)) := rfl
  rw [this, Bool.and_true]
  rfl
theorem eqR_bl (a b : Bool) : eqR (.bl a) (.bl b) = some (decide (a = b)) := by cases a <;> cases b <;> rfl
theorem rat_ext {a b : Rat} : (decide (a.num = b.num) && decide ((a.den : Int) = b.den)) = decide (a = b) := by
  rw [← Bool.decide_and]
  congr 1
  refine propext ⟨fun ⟨h1, h2⟩ => Rat.ext h1 (by omega), fun h => by subst h; exact ⟨rfl, rfl⟩⟩
theorem eqR_rt (a b : Rat) : eqR (rt a) (rt b) = some (decide (a = b)) := by
  unfold rt
  rw [eqR_pair, rat_ext]
variable (k L : Nat)
theorem common_spec (a b : Int) : callF Pr G0 D0 L (k + 1) 28 [.val (.int a), .val (.int b)] = .ok (.val (.int ((Nat.gcd a.natAbs b.natAbs : Nat) : Int))) [.val (.int a), .val (.int b)] := by
  rw [callF_succ (f := ⟨2, 2, b_common⟩) rfl rfl]
  simp [b_common]
theorem negated_spec (a : Rat) : callF Pr G0 D0 L (k + 1) 54 [.val (rt a)] = .ok (.val (rt (-a))) [.val (rt a)] := by
  rw [callF_succ (f := ⟨1, 1, b_negated⟩) rfl rfl]
  simp [b_negated, rt]
theorem neg_sz {a : Rat} {n : Nat} (h : Rsz a n) : Rsz (-a) n := by
  refine ⟨?_, ?_⟩
  · rw [Rat.neg_num, Int.natAbs_neg]; exact h.1
  · rw [Rat.neg_den]; exact h.2
theorem minus_spec (a b : Rat) {n m : Nat} (ha : Rsz a n) (hb : Rsz b m) (hn : 0 < n) (hm : 0 < m) (h : n + m ≤ 9000) :
    callF Pr G0 D0 L (k + 3) 55 [.val (rt a), .val (rt b)] = .ok (.val (rt (a - b))) [.val (rt a), .val (rt b)] := by
  rw [callF_succ (f := ⟨2, 2, b_minus⟩) rfl rfl]
  have h1 := negated_spec (k + 1) L b
  have h2 := plus_spec k L a (-b) ha (neg_sz hb) hn hm h
  rw [Rat.sub_eq_add_neg]
  generalize rt (a + -b) = s at h2
  generalize rt (-b) = x at h1 h2
  generalize rt a = y at h2
  generalize rt b = z at h1
  simp [b_minus, h1, h2]
theorem times_core (an ad bn bd : Int) (s : T) (h1 : ¬ ad = 1) (m1 : mulOk an bn = true) (m3 : mulOk ad bd = true)
  (hr : callF Pr G0 D0 L (k + 1) 0 [.val (.int (an * bn)), .val (.int (ad * bd))] = .ok (.val s) [.val (.int (an * bn)), .val (.int (ad * bd))]) :
    callF Pr G0 D0 L (k + 2) 29 [.val (.tup [.int an, .int ad]), .val (.tup [.int bn, .int bd])] = .ok (.val s) [.val (.tup [.int an, .int ad]), .val (.tup [.int bn, .int bd])] := by
  rw [callF_succ (f := ⟨2, 2, b_times⟩) rfl rfl]
  simp [b_times, h1, hr, m1, m3]
theorem times_core2 (an ad bn bd : Int) (s : T) (h1 : ad = 1) (h2 : ¬ bd = 1) (m1 : mulOk an bn = true) (m3 : mulOk ad bd = true)
  (hr : callF Pr G0 D0 L (k + 1) 0 [.val (.int (an * bn)), .val (.int (ad * bd))] = .ok (.val s) [.val (.int (an * bn)), .val (.int (ad * bd))]) :
    callF Pr G0 D0 L (k + 2) 29 [.val (.tup [.int an, .int ad]), .val (.tup [.int bn, .int bd])] = .ok (.val s) [.val (.tup [.int an, .int ad]), .val (.tup [.int bn, .int bd])] := by
  rw [callF_succ (f := ⟨2, 2, b_times⟩) rfl rfl]
  subst h1
  simp at hr
  simp [b_times, h2, hr, m1, m3]
theorem times_core3 (an ad bn bd sn sd : Int) (h1 : ad = 1) (h2 : bd = 1) (m1 : mulOk an bn = true) (e1 : sn = an * bn) (e2 : sd = 1) :
    callF Pr G0 D0 L (k + 2) 29 [.val (.tup [.int an, .int ad]), .val (.tup [.int bn, .int bd])] = .ok (.val (.tup [.int sn, .int sd])) [.val (.tup [.int an, .int ad]), .val (.tup [.int bn, .int bd])] := by
  rw [callF_succ (f := ⟨2, 2, b_times⟩) rfl rfl]
  subst h1 h2 e1 e2
  simp [b_times, m1]
theorem times_spec (a b : Rat) {n m : Nat} (ha : Rsz a n) (hb : Rsz b m) (hn : 0 < n) (hm : 0 < m) (h : n + m ≤ 9000) :
    callF Pr G0 D0 L (k + 2) 29 [.val (rt a), .val (rt b)] = .ok (.val (rt (a * b))) [.val (rt a), .val (rt b)] := by
  have hp : (a.den : Int) * b.den ≠ 0 := by
    have := Int.mul_pos (den_pos' a) (den_pos' b)
    omega
  have h3 : ((a.den : Int) * b.den).natAbs < 2 ^ 9000 := Nat.lt_of_lt_of_le (natAbs_lt_mul (n := n) (m := m) (by simpa using ha.2) (by simpa using hb.2)) (Nat.pow_le_pow_right (by decide) h)
  have hr := ratio_spec k L (a.num * b.num) (a.den * b.den) hp h3
  rw [← mul_divInt] at hr
  have m1 : mulOk a.num b.num = true := mulOk_sz ha.1 hb.1 hn hm (by omega)
  have m3 : mulOk a.den b.den = true := mulOk_sz (a := a.den) (b := b.den) (by simpa using ha.2) (by simpa using hb.2) hn hm (by omega)
  clear h3
  by_cases h1 : (a.den : Int) = 1
  · by_cases h2 : (b.den : Int) = 1
    · have e : (a * b).num = a.num * b.num ∧ ((a * b).den : Int) = 1 := by
        rw [mul_divInt, h1, h2]
        obtain ⟨p1, p2⟩ := divInt_eq (n := a.num * b.num) (d := 1 * 1) (by decide)
        rw [p1, p2]
        simp
      exact times_core3 k L _ _ _ _ _ _ h1 h2 m1 e.1 e.2
    · exact times_core2 k L _ _ _ _ _ h1 h2 m1 m3 hr
  · exact times_core k L _ _ _ _ _ h1 m1 m3 hr
theorem over_core (an ad bn bd : Int) (s : T) (m1 : mulOk an bd = true) (m3 : mulOk ad bn = true)
  (hr : callF Pr G0 D0 L (k + 1) 0 [.val (.int (an * bd)), .val (.int (ad * bn))] = .ok (.val s) [.val (.int (an * bd)), .val (.int (ad * bn))]) :
    callF Pr G0 D0 L (k + 2) 56 [.val (.tup [.int an, .int ad]), .val (.tup [.int bn, .int bd])] = .ok (.val s) [.val (.tup [.int an, .int ad]), .val (.tup [.int bn, .int bd])] := by
  rw [callF_succ (f := ⟨2, 2, b_over⟩) rfl rfl]
  simp [b_over, hr, m1, m3]
/-- the quotient, as the texts reckon it -/
def quo (a b : Rat) : Rat := Rat.divInt (a.num * b.den) (a.den * b.num)
theorem over_spec (a b : Rat) (h0 : b.num ≠ 0) {n m : Nat} (ha : Rsz a n) (hb : Rsz b m) (hn : 0 < n) (hm : 0 < m) (h : n + m ≤ 9000) :
    callF Pr G0 D0 L (k + 2) 56 [.val (rt a), .val (rt b)] = .ok (.val (rt (quo a b))) [.val (rt a), .val (rt b)] := by
  have hp : (a.den : Int) * b.num ≠ 0 := Int.mul_ne_zero (by have := den_pos' a; omega) h0
  have h3 : ((a.den : Int) * b.num).natAbs < 2 ^ 9000 := Nat.lt_of_lt_of_le (natAbs_lt_mul (n := n) (m := m) (by simpa using ha.2) hb.1) (Nat.pow_le_pow_right (by decide) h)
  have hr := ratio_spec k L (a.num * b.den) (a.den * b.num) hp h3
  have m1 : mulOk a.num b.den = true := mulOk_sz ha.1 (by simpa using hb.2) hn hm (by omega)
  have m3 : mulOk a.den b.num = true := mulOk_sz (a := a.den) (by simpa using ha.2) hb.1 hn hm (by omega)
  clear h3
  exact over_core k L _ _ _ _ _ m1 m3 hr
theorem ratio_zero (n : Int) : callF Pr G0 D0 L (k + 1) 0 [.val (.int n), .val (.int 0)] = .exc (.blt "ZeroDivisionError") [.val (.int n), .val (.int 0)] := by
  rw [callF_succ (f := ⟨2, 3, b_ratio⟩) rfl rfl]
  simp [b_ratio]
theorem over_zero_core (an ad bd : Int) (m1 : mulOk an bd = true) :
    callF Pr G0 D0 L (k + 2) 56 [.val (.tup [.int an, .int ad]), .val (.tup [.int 0, .int bd])] = .exc (.blt "ZeroDivisionError") [.val (.tup [.int an, .int ad]), .val (.tup [.int 0, .int bd])] := by
  rw [callF_succ (f := ⟨2, 2, b_over⟩) rfl rfl]
  have h := ratio_zero k L (an * bd)
  simp [b_over, h, m1]
theorem below_spec (a b : Rat) {n m : Nat} (ha : Rsz a n) (hb : Rsz b m) (hn : 0 < n) (hm : 0 < m) (h : n + m ≤ 9000) :
    callF Pr G0 D0 L (k + 1) 76 [.val (rt a), .val (rt b)] = .ok (.val (.bl (decide (a.num * b.den < b.num * a.den)))) [.val (rt a), .val (rt b)] := by
  have m1 : mulOk a.num b.den = true := mulOk_sz ha.1 (by simpa using hb.2) hn hm (by omega)
  have m2 : mulOk b.num a.den = true := mulOk_sz hb.1 (by simpa using ha.2) hm hn (by omega)
  rw [callF_succ (f := ⟨2, 2, b_below⟩) rfl rfl]
  unfold rt
  generalize (a.den : Int) = x at *
  generalize (b.den : Int) = y at *
  simp [b_below, m1, m2]
theorem law_add_core (an ad bn bd : Int) (s : T) (m1 : mulOk an bd = true) (m2 : mulOk bn ad = true) (m3 : mulOk ad bd = true)
  (hr : callF Pr G0 D0 L (k + 2) 19 [.val (.int (an * bd + bn * ad)), .val (.int (ad * bd))] = .ok (.val s) [.val (.int (an * bd + bn * ad)), .val (.int (ad * bd))]) :
    callF Pr G0 D0 L (k + 3) 37 [.val (.tup [.int an, .int ad]), .val (.tup [.int bn, .int bd])] = .ok (.val s) [.val (.tup [.int an, .int ad]), .val (.tup [.int bn, .int bd])] := by
  rw [callF_succ (f := ⟨2, 2, b_law_add⟩) rfl rfl]
  simp [b_law_add, m1, m2, m3, hr]
theorem law_mul_core (an ad bn bd : Int) (s : T) (m1 : mulOk an bn = true) (m3 : mulOk ad bd = true)
  (hr : callF Pr G0 D0 L (k + 2) 19 [.val (.int (an * bn)), .val (.int (ad * bd))] = .ok (.val s) [.val (.int (an * bn)), .val (.int (ad * bd))]) :
    callF Pr G0 D0 L (k + 3) 38 [.val (.tup [.int an, .int ad]), .val (.tup [.int bn, .int bd])] = .ok (.val s) [.val (.tup [.int an, .int ad]), .val (.tup [.int bn, .int bd])] := by
  rw [callF_succ (f := ⟨2, 2, b_law_mul⟩) rfl rfl]
  simp [b_law_mul, m1, m3, hr]
theorem law_add_spec (a b : Rat) {n m : Nat} (ha : Rsz a n) (hb : Rsz b m) (hn : 0 < n) (hm : 0 < m) (h : n + m + 1 ≤ 9000) :
    callF Pr G0 D0 L (k + 3) 37 [.val (rt a), .val (rt b)] = .ok (.val (rt (a + b))) [.val (rt a), .val (rt b)] := by
  have hp : (a.den : Int) * b.den ≠ 0 := by
    have := Int.mul_pos (den_pos' a) (den_pos' b)
    omega
  have h1 : (a.num * b.den).natAbs < 2 ^ (n + m) := natAbs_lt_mul ha.1 (by simpa using hb.2)
  have h2 : (b.num * a.den).natAbs < 2 ^ (n + m) := by
    rw [Nat.add_comm]; exact natAbs_lt_mul hb.1 (by simpa using ha.2)
  have h3 : ((a.den : Int) * b.den).natAbs < 2 ^ 9000 := Nat.lt_of_lt_of_le (natAbs_lt_mul (n := n) (m := m) (by simpa using ha.2) (by simpa using hb.2)) (Nat.pow_le_pow_right (by decide) (by omega))
  have h4 : (a.num * b.den + b.num * a.den).natAbs < 2 ^ 9000 := Nat.lt_of_lt_of_le (natAbs_lt_add h1 h2) (Nat.pow_le_pow_right (by decide) h)
  have hr := rat_spec k L (a.num * b.den + b.num * a.den) (a.den * b.den) hp h4 h3
  rw [← add_divInt] at hr
  have m1 : mulOk a.num b.den = true := mulOk_sz ha.1 (by simpa using hb.2) hn hm (by omega)
  have m2 : mulOk b.num a.den = true := mulOk_sz hb.1 (by simpa using ha.2) hm hn (by omega)
  have m3 : mulOk a.den b.den = true := mulOk_sz (a := a.den) (b := b.den) (by simpa using ha.2) (by simpa using hb.2) hn hm (by omega)
  exact law_add_core k L _ _ _ _ _ m1 m2 m3 hr
theorem law_mul_spec (a b : Rat) {n m : Nat} (ha : Rsz a n) (hb : Rsz b m) (hn : 0 < n) (hm : 0 < m) (h : n + m ≤ 9000) :
    callF Pr G0 D0 L (k + 3) 38 [.val (rt a), .val (rt b)] = .ok (.val (rt (a * b))) [.val (rt a), .val (rt b)] := by
  have hp : (a.den : Int) * b.den ≠ 0 := by
    have := Int.mul_pos (den_pos' a) (den_pos' b)
    omega
  have h3 : ((a.den : Int) * b.den).natAbs < 2 ^ 9000 := Nat.lt_of_lt_of_le (natAbs_lt_mul (n := n) (m := m) (by simpa using ha.2) (by simpa using hb.2)) (Nat.pow_le_pow_right (by decide) (by omega))
  have h4 : (a.num * b.num).natAbs < 2 ^ 9000 := Nat.lt_of_lt_of_le (natAbs_lt_mul ha.1 hb.1) (Nat.pow_le_pow_right (by decide) h)
  have hr := rat_spec k L (a.num * b.num) (a.den * b.den) hp h4 h3
  rw [← mul_divInt] at hr
  have m1 : mulOk a.num b.num = true := mulOk_sz ha.1 hb.1 hn hm (by omega)
  have m3 : mulOk a.den b.den = true := mulOk_sz (a := a.den) (b := b.den) (by simpa using ha.2) (by simpa using hb.2) hn hm (by omega)
  exact law_mul_core k L _ _ _ _ _ m1 m3 hr
end G
namespace G
open PySem PySem.Spec PyProof.Rows L2

/-! # what a ratio is -/
def wholeT : T → Bool | .int _ => true | _ => false
/-- numbers that the texts below may meet -/
def Sm (a : Int) : Prop := a.natAbs < 2 ^ 1500
variable (k L : Nat)
theorem is_whole_spec (t : T) (h : isDicT t = false) : callF Pr G0 D0 L (k + 1) 77 [.val t] = .ok (.val (.bl (wholeT t))) [.val t] := by
  rw [callF_succ (f := ⟨1, 1, b_is_whole⟩) rfl rfl]
  cases t <;> simp [b_is_whole, wholeT, isDicT] at *
def ratB (a b : Int) : Bool := decide (1 ≤ b) && decide (Nat.gcd a.natAbs b.natAbs = 1)
theorem ratB_rt (q : Rat) : ratB q.num q.den = true := by
  have h := q.reduced
  have h2 := q.den_pos
  unfold Nat.Coprime at h
  simp only [ratB, Int.natAbs_natCast, h, decide_true, Bool.and_true, decide_eq_true_eq]
  omega
theorem is_ratio_spec (a b : Int) : callF Pr G0 D0 L (k + 2) 78 [.val (.tup [.int a, .int b])] = .ok (.val (.bl (ratB a b))) [.val (.tup [.int a, .int b])] := by
  rw [callF_succ (f := ⟨1, 1, b_is_ratio⟩) rfl rfl]
  have h1 := is_whole_spec k L (.int a) rfl
  have h2 := is_whole_spec k L (.int b) rfl
  have h3 := common_spec k L a b
  generalize hg : Nat.gcd a.natAbs b.natAbs = g at h3
  have hi : ((g : Int) = 1) ↔ (g = 1) := by omega
  by_cases hb : 1 ≤ b
  · simp [b_is_ratio, h1, h2, h3, wholeT, ratB, hb, hg, hi]
  · simp [b_is_ratio, h1, h2, h3, wholeT, ratB, hb]
/-- what is no tuple of two whole numbers -/
def NoR : T → Prop
  | .tup [x, y] => isDicT x = false ∧ isDicT y = false ∧ (wholeT x = false ∨ wholeT y = false)
  | .tup xs => xs.length ≠ 2 ∧ xs.length < 100
  | .dic _ => False
  | _ => True
theorem is_ratio_no (t : T) (h : NoR t) : callF Pr G0 D0 L (k + 2) 78 [.val t] = .ok (.val (.bl false)) [.val t] := by
  rw [callF_succ (f := ⟨1, 1, b_is_ratio⟩) rfl rfl]
  cases t with
  | tup xs =>
    by_cases hl : xs.length = 2
    · match xs, hl with
      | [x, y], _ =>
        obtain ⟨h1, h2, h3⟩ := h
        have e1 := is_whole_spec k L x h1
        have e2 := is_whole_spec k L y h2
        cases hx : wholeT x with
        | false => simp [b_is_ratio, e1, hx]
        | true =>
          rw [hx] at h3
          have hy : wholeT y = false := by simpa using h3
          simp [b_is_ratio, e1, e2, hx, hy]
    · have hz : ¬ (xs.length : Int) = 2 := by omega
      have h100 : xs.length ≤ 100000 := by
        match xs, h with
        | [], _ => simp
        | [_], _ => simp
        | [_, _], _ => simp
        | _ :: _ :: _ :: _, h => exact Nat.le_of_lt (Nat.lt_trans h.2 (by decide))
      simp [b_is_ratio, hz, h100]
  | dic _ => exact h.elim
  | _ => simp [b_is_ratio]
theorem law_is_ratio_spec (a b : Int) (ha : a.natAbs < 2 ^ 9000) (hb : b.natAbs < 2 ^ 9000) : callF Pr G0 D0 L (k + 2) 63 [.val (.tup [.int a, .int b])] = .ok (.val (.bl (ratB a b))) [.val (.tup [.int a, .int b])] := by
  have h3 := gcd_spec k L a b ha hb
  have e : ((Int.gcd a b : Nat) : Int) = ((Nat.gcd a.natAbs b.natAbs : Nat) : Int) := rfl
  rw [e] at h3
  clear ha hb e
  rw [callF_succ (f := ⟨1, 2, b_law_is_ratio⟩) rfl rfl]
  generalize hg : Nat.gcd a.natAbs b.natAbs = g at h3
  have hi : ((g : Int) = 1) ↔ (g = 1) := by omega
  have hfor : xc (callF Pr G0 D0 L (k + 1)) G0 D0 (fxOf [.val (.tup [.int a, .int b])]) L f_law_is_ratio_1 [some (.val (.tup [.int a, .int b])), none] = .ok .nxt [some (.val (.tup [.int a, .int b])), some (.val (.int b))] :=
    for_ok (items := [.int a, .int b]) (lk := none) (e1 := [some (.val (.tup [.int a, .int b])), none]) (e' := [some (.val (.tup [.int a, .int b])), some (.val (.int b))]) (by simp) (by simp [forL, s_law_is_ratio_1])
  by_cases hb : 1 ≤ b
  · simp [b_law_is_ratio, hfor, h3, ratB, hb, hg, hi]
  · simp [b_law_is_ratio, hfor, h3, ratB, hb]
theorem law_is_ratio_rt (q : Rat) {n : Nat} (hq : Rsz q n) (hn : n ≤ 9000) : callF Pr G0 D0 L (k + 2) 63 [.val (rt q)] = .ok (.val (.bl true)) [.val (rt q)] := by
  have h := hq.mono hn
  have := law_is_ratio_spec k L q.num q.den h.1 (by simpa using h.2)
  rw [ratB_rt] at this
  exact this
/-! # figures -/
theorem len_digits (n : Nat) : (Str.ofString (toString (n : Int))).length = (Nat.toDigits 10 n).length := by
  rw [PySem.ofString_length]
  show (toString n).length = _
  show (String.ofList (Nat.toDigits 10 n)).length = _
  rw [String.length_ofList]
theorem digits_le {n f : Nat} (hf : 0 < f) : (Nat.toDigits 10 n).length ≤ f ↔ n < 10 ^ f := Nat.length_toDigits_le_iff (by decide) hf
theorem digits_pos (n : Nat) : 0 < (Nat.toDigits 10 n).length := Nat.length_toDigits_pos
/-- more figures than f -/
def moreF (a b : Nat) (f : Nat) : Bool := decide (10 ^ f ≤ a) || decide (10 ^ f ≤ b)
theorem moreF_digits {a b f : Nat} (hb : 1 ≤ b) : moreF a b f = decide (f < max (Nat.toDigits 10 a).length (Nat.toDigits 10 b).length) := by
  unfold moreF
  rw [← Bool.decide_or]
  congr 1
  refine propext ?_
  by_cases hf : f = 0
  · subst hf
    have := digits_pos a
    simp; omega
  · have h1 := digits_le (n := a) (f := f) (by omega)
    have h2 := digits_le (n := b) (f := f) (by omega)
    omega
theorem abs_eq (a : Int) : (if a < 0 then -a else a) = (a.natAbs : Int) := by split <;> omega
theorem figures_core (a b : Int) (A B : Nat) (ha : (if a < 0 then -a else a) = (A : Int)) (hb : b = (B : Int)) (h1 : A.log2 < 1920) (h2 : B.log2 < 1920) (hz1 : (Nat.toDigits 10 A).length ≤ 100000) (hz2 : (Nat.toDigits 10 B).length ≤ 100000) :
    callF Pr G0 D0 L (k + 1) 88 [.val (.tup [.int a, .int b])] = .ok (.val (.int ((max (Nat.toDigits 10 A).length (Nat.toDigits 10 B).length : Nat) : Int))) [.val (.tup [.int a, .int b])] := by
  rw [callF_succ (f := ⟨1, 1, b_law_figures⟩) rfl rfl]
  subst hb
  have l1 : (Str.ofString (Int.repr (A : Int))).length = _ := len_digits A
  have l2 : (Str.ofString (Int.repr (B : Int))).length = _ := len_digits B
  generalize (Nat.toDigits 10 A).length = x at *
  generalize (Nat.toDigits 10 B).length = y at *
  simp [b_law_figures, ha, h1, h2, l1, l2, hz1, hz2]
  split <;> omega
end G
namespace G
open PySem PySem.Spec PyProof.Rows L2

variable (k L : Nat)
theorem fold_mul (c : Int) : ∀ (n : Nat) (s : Int), (List.range n).foldl (fun s (_ : Nat) => s * c) s = s * c ^ n := by
  intro n
  induction n with
  | zero => intro s; simp
  | succ n ih => intro s; rw [List.range_succ, List.foldl_append, ih]; simp [Int.pow_succ, Int.mul_assoc]
theorem bits_lt (A : Nat) {z : Nat} (h : Builtin.Int.intBits (A : Int) = z) : A < 2 ^ z := by
  unfold Builtin.Int.intBits at h
  by_cases h0 : (A : Int) = 0
  · have : A = 0 := by omega
    subst this
    exact Nat.two_pow_pos _
  · rw [if_neg (by simpa using h0)] at h
    rw [← h]
    exact Nat.lt_log2_self
theorem few_bits {A z f : Nat} (h : A < 2 ^ z) (hz : (z : Int) ≤ 3 * (f : Int)) : A < 10 ^ f := by
  have h1 : 2 ^ z ≤ 2 ^ (3 * f) := Nat.pow_le_pow_right (by decide) (by omega)
  have h2 : (2 : Nat) ^ (3 * f) = 8 ^ f := by rw [Nat.pow_mul]
  have h3 : (8 : Nat) ^ f ≤ 10 ^ f := Nat.pow_le_pow_left (by decide) f
  omega
theorem pow_split (f : Nat) : (1000000 : Int) ^ (f / 6) * 10 ^ (f - 6 * (f / 6)) = ((10 ^ f : Nat) : Int) := by
  have e : (1000000 : Int) = 10 ^ 6 := by decide
  rw [e, ← Int.pow_mul, ← Int.pow_add, show 6 * (f / 6) + (f - 6 * (f / 6)) = f by omega]
  simp
theorem exceeds_core (a b : Int) (A B f : Nat) (ha : (if a < 0 then -a else a) = (A : Int)) (hb : b = (B : Int)) (hf : f ≤ 100000) :
    callF Pr G0 D0 L (k + 1) 80 [.val (.tup [.int a, .int b]), .val (.int f)] = .ok (.val (.bl (moreF A B f))) [.val (.tup [.int a, .int b]), .val (.int f)] := by
  subst hb
  rw [callF_succ (f := ⟨2, 5, b_exceeds⟩) rfl rfl]
  obtain ⟨za, hza⟩ : ∃ z, Builtin.Int.intBits (A : Int) = z := ⟨_, rfl⟩
  obtain ⟨zb, hzb⟩ : ∃ z, Builtin.Int.intBits (B : Int) = z := ⟨_, rfl⟩
  have la := bits_lt A hza
  have lb := bits_lt B hzb
  have e6 : (f : Int) / 6 = ((f / 6 : Nat) : Int) := by omega
  have er : (f : Int) - 6 * ((f / 6 : Nat) : Int) = ((f - 6 * (f / 6) : Nat) : Int) := by omega
  obtain ⟨v1, hl1, c1, he1⟩ := forL_st (fx := fxOf [.val (.tup [.int a, .int (B : Int)]), .val (.int f)]) (tg := .name 4) (body := xcs (callF Pr G0 D0 L k) G0 D0 (fxOf [.val (.tup [.int a, .int (B : Int)]), .val (.int f)]) L s_exceeds_1) (f := fun (t : Nat) => T.int (0 + (t : Int))) (xs := List.range (f / 6))
    (fun (s : Int) e => ∃ c : Option Iv, e = [some (.val (.tup [.int a, .int (B : Int)])), some (.val (.int f)), some (.val (.int 1000000)), some (.val (.int s)), c]) (fun s _ => s * 1000000)
    (s := 1) (e := [some (.val (.tup [.int a, .int (B : Int)])), some (.val (.int f)), some (.val (.int 1000000)), some (.val (.int 1)), none]) (fun t ht s e ⟨c, he⟩ => by
      subst he
      exact ⟨_, _, by simp; rfl, by simp [s_exceeds_1, mulOk_r (i := s) (j := 1000000) (by omega)]; rfl, _, rfl⟩) ⟨_, rfl⟩
  rw [fold_mul, Int.one_mul] at he1
  obtain ⟨v2, hl2, c2, he2⟩ := forL_st (fx := fxOf [.val (.tup [.int a, .int (B : Int)]), .val (.int f)]) (tg := .name 4) (body := xcs (callF Pr G0 D0 L k) G0 D0 (fxOf [.val (.tup [.int a, .int (B : Int)]), .val (.int f)]) L s_exceeds_2) (f := fun (t : Nat) => T.int (0 + (t : Int))) (xs := List.range (f - 6 * (f / 6)))
    (fun (s : Int) e => ∃ c : Option Iv, e = [some (.val (.tup [.int a, .int (B : Int)])), some (.val (.int f)), some (.val (.int 1000000)), some (.val (.int s)), c]) (fun s _ => s * 10)
    (s := 1000000 ^ (f / 6)) (e := v1) (fun t ht s e ⟨c, he⟩ => by
      subst he
      exact ⟨_, _, by simp; rfl, by simp [s_exceeds_2, mulOk_r (i := s) (j := 10) (by omega)]; rfl, _, rfl⟩) ⟨c1, he1⟩
  rw [fold_mul, pow_split] at he2
  have hs1 : evSrc (callF Pr G0 D0 L k) G0 D0 (.rng1 (IE.bin Operator.FloorDiv (IE.var 1) (IE.int 6))) [some (.val (.tup [.int a, .int (B : Int)])), some (.val (.int f)), some (.val (.int 1000000)), some (.val (.int 1)), none] = .ok ((List.range (f / 6)).map (fun k => T.int (0 + (k : Nat))), none) [some (.val (.tup [.int a, .int (B : Int)])), some (.val (.int f)), some (.val (.int 1000000)), some (.val (.int 1)), none] :=
    src_rng1 (by simp [(by decide : Nat.log2 6 < 9000)]) (by omega)
  have f1 : xc (callF Pr G0 D0 L k) G0 D0 (fxOf [.val (.tup [.int a, .int (B : Int)]), .val (.int f)]) L f_exceeds_1 [some (.val (.tup [.int a, .int (B : Int)])), some (.val (.int f)), some (.val (.int 1000000)), some (.val (.int 1)), none] = _ := for_ok (L := L) hs1 hl1
  have hs2 : evSrc (callF Pr G0 D0 L k) G0 D0 (.rng1 (IE.bin Operator.Sub (IE.var 1) (IE.bin Operator.Mult (IE.int 6) (IE.bin Operator.FloorDiv (IE.var 1) (IE.int 6))))) v1 = .ok ((List.range (f - 6 * (f / 6))).map (fun k => T.int (0 + (k : Nat))), none) v1 := by
    refine src_rng1 ?_ (by omega)
    subst he1
    have er' : (f : Int) - 6 * ((f : Int) / 6) = ((f - 6 * (f / 6) : Nat) : Int) := by omega
    simp [mulOk_l (i := 6) (j := (f : Int) / 6) (by omega), (by decide : Nat.log2 6 < 9000), er']
  have f2 : xc (callF Pr G0 D0 L k) G0 D0 (fxOf [.val (.tup [.int a, .int (B : Int)]), .val (.int f)]) L f_exceeds_2 v1 = _ := for_ok (L := L) hs2 hl2
  have main : moreF A B f = (decide (((10 ^ f : Nat) : Int) ≤ A) || decide (((10 ^ f : Nat) : Int) ≤ B)) := by
    unfold moreF
    exact congr (congrArg _ (decide_eq_decide.mpr Int.ofNat_le.symm)) (decide_eq_decide.mpr Int.ofNat_le.symm)
  by_cases c : (za : Int) ≤ 3 * (f : Int) ∧ (zb : Int) ≤ 3 * (f : Int)
  · have q1 := few_bits la c.1
    have q2 := few_bits lb c.2
    have e : moreF A B f = false := by
      unfold moreF
      rw [decide_eq_false (by omega), decide_eq_false (by omega)]; rfl
    rw [e]
    simp [b_exceeds, met0R, ha, hza, hzb, c.1, c.2, mulOk_l (i := 3) (j := (f : Int)) (by omega)]
  · rw [main]
    generalize ((10 ^ f : Nat) : Int) = M at he2
    clear main er e6 hs1 hs2 hl1 hl2 la lb
    simp only [unlockE] at f1 f2
    subst he1 he2
    by_cases d1 : (za : Int) ≤ 3 * (f : Int)
    · have d2 : ¬ (zb : Int) ≤ 3 * (f : Int) := fun z => c ⟨d1, z⟩
      by_cases g1 : M ≤ A <;> by_cases g2 : M ≤ B <;> simp [b_exceeds, met0R, ha, hza, hzb, d1, d2, mulOk_l (i := 3) (j := (f : Int)) (by omega), f1, f2, g1, g2]
    · by_cases g1 : M ≤ A <;> by_cases g2 : M ≤ B <;> simp [b_exceeds, met0R, ha, hza, d1, mulOk_l (i := 3) (j := (f : Int)) (by omega), f1, f2, g1, g2]
end G
namespace G
open PySem PySem.Spec PyProof.Rows L2

variable (k L : Nat)
/-! # texts of ratios -/
theorem text_len {a : Int} (h : a.natAbs.log2 < 1920) : (Str.ofString (Int.repr a)).length ≤ 1921 := by
  have h1 := int_text_length_le (a := a) (k := 1920) (by decide) h
  have h3 : (Str.ofString (toString a)).length = (toString a).length := PySem.ofString_length _
  have h4 : (Str.ofString (toString a)).length ≤ 1921 := by omega
  exact h4
theorem empty_app (s : Str) : Str.empty ++ s = s := by
  cases s
  show Str.mk (#[] ++ _) = _
  simp
theorem app_len (a b : Str) : (a ++ b).length = a.length + b.length := by
  show (a.cps ++ b.cps).size = _
  rw [Array.size_append]; rfl
def rtext (a b : Int) : Str := if b = 1 then Str.ofString (Int.repr a) else Str.ofString (Int.repr a) ++ "/" ++ Str.ofString (Int.repr b)
theorem law_text_spec (a b : Int) (h1 : a.natAbs.log2 < 1920) (h2 : b.natAbs.log2 < 1920) : callF Pr G0 D0 L (k + 1) 81 [.val (.tup [.int a, .int b])] = .ok (.val (.str (rtext a b))) [.val (.tup [.int a, .int b])] := by
  rw [callF_succ (f := ⟨1, 1, b_law_rat_text⟩) rfl rfl]
  have l1 := text_len h1
  have l2 := text_len h2
  have l3 : ("/" : Str).length = 1 := rfl
  by_cases hb : b = 1
  · simp [b_law_rat_text, rtext, hb, h1]
  · simp only [rtext, if_neg hb]
    generalize hx : Str.ofString (Int.repr a) = x at *
    generalize hy : Str.ofString (Int.repr b) = y at *
    have e1 : x.length + ("/" : Str).length ≤ 100000 := by omega
    have e2 : (x ++ ("/" : Str)).length + y.length ≤ 100000 := by rw [app_len]; omega
    simp [b_law_rat_text, hb, h1, h2, hx, hy, e1, e2]
theorem text_spec (a b : Int) (h1 : a.natAbs.log2 < 1920) (h2 : b.natAbs.log2 < 1920) : callF Pr G0 D0 L (k + 1) 79 [.val (.tup [.int a, .int b])] = .ok (.val (.str (rtext a b))) [.val (.tup [.int a, .int b])] := by
  rw [callF_succ (f := ⟨1, 1, b_ratio_text⟩) rfl rfl]
  have l1 := text_len h1
  have l2 := text_len h2
  have l3 : ("/" : Str).length = 1 := rfl
  by_cases hb : b = 1
  · simp [b_ratio_text, rtext, hb, h1]
  · simp only [rtext, if_neg hb]
    generalize hx : Str.ofString (Int.repr a) = x at *
    generalize hy : Str.ofString (Int.repr b) = y at *
    have e0 : x.length ≤ 100000 := by omega
    have e1 : (x ++ ("/" : Str)).length ≤ 100000 := by rw [app_len]; omega
    have e2 : (x ++ ("/" : Str) ++ y).length ≤ 100000 := by rw [app_len, app_len]; omega
    have e3 : ("/" : Str).length ≤ 100000 := by rw [l3]; omega
    simp [b_ratio_text, hb, h1, h2, hx, hy, e0, e1, e2, e3, valsR, joinF, empty_app]
/-! # draws -/
theorem number_spec (j : Jar) : ∃ (z : Int) (j' : Jar), z.natAbs < 2 ^ 200 ∧ callF Pr G0 D0 L (k + 4) 82 [.own (jarO j)] = .ok (.val (.int z)) [.own (jarO j')] := by
  rw [callF_succ (f := ⟨1, 4, b_law_number⟩) rfl rfl]
  have hd := draw_n (k + 1) L j 7 (by decide)
  have d1 := drawV_nonneg j (m := 7) (by decide)
  have d2 := drawV_lt j (m := 7) (by decide)
  generalize drawV j 7 = way at hd d1 d2
  generalize drawJ j 7 = j1 at hd
  by_cases h2 : way < 2
  · have b1 := between_spec k L j1 (-6) 6 (by decide) (by decide)
    have e1 := drawV_nonneg j1 (m := 6 - -6 + 1) (by decide)
    have e2 := drawV_lt j1 (m := 6 - -6 + 1) (by decide)
    generalize drawV j1 (6 - -6 + 1) = v1 at b1 e1 e2
    generalize drawJ j1 (6 - -6 + 1) = j2 at b1
    exact ⟨-6 + v1, j2, by omega, by simp [b_law_number, hd, h2, b1]⟩
  by_cases h3 : way = 2
  · have b1 := between_spec k L j1 (-12) 12 (by decide) (by decide)
    have e1 := drawV_nonneg j1 (m := 12 - -12 + 1) (by decide)
    have e2 := drawV_lt j1 (m := 12 - -12 + 1) (by decide)
    generalize drawV j1 (12 - -12 + 1) = v1 at b1 e1 e2
    generalize drawJ j1 (12 - -12 + 1) = j2 at b1
    exact ⟨60 * (-12 + v1), j2, by omega, by simp [b_law_number, hd, h3, b1, mulOk_l (i := 60) (j := -12 + v1) (by omega)]⟩
  by_cases h4 : way = 3
  · have b1 := between_spec k L j1 (-1000000) 1000000 (by decide) (by decide)
    have e1 := drawV_nonneg j1 (m := 1000000 - -1000000 + 1) (by decide)
    have e2 := drawV_lt j1 (m := 1000000 - -1000000 + 1) (by decide)
    generalize drawV j1 (1000000 - -1000000 + 1) = v1 at b1 e1 e2
    generalize drawJ j1 (1000000 - -1000000 + 1) = j2 at b1
    exact ⟨-1000000 + v1, j2, by omega, by simp [b_law_number, hd, h4, b1]⟩
  have hd2 := draw_n (k + 1) L j1 5 (by decide)
  have d3 := drawV_nonneg j1 (m := 5) (by decide)
  have d4 := drawV_lt j1 (m := 5) (by decide)
  generalize drawV j1 5 = many at hd2 d3 d4
  generalize drawJ j1 5 = j2 at hd2
  obtain ⟨n, rfl⟩ : ∃ n : Nat, many = n := ⟨many.toNat, by omega⟩
  obtain ⟨e', hl, z, j3, c, rfl, hz0, hz1⟩ := forL_st (fx := fxOf [.own (jarO j)]) (tg := .name 3) (body := xcs (callF Pr G0 D0 L (k + 3)) G0 D0 (fxOf [.own (jarO j)]) L s_law_number_1) (f := fun (t : Nat) => T.int (0 + (t : Int))) (xs := List.range (1 + n))
    (fun (i : Nat) e => ∃ (z : Int) (j3 : Jar) (c : Option Iv), e = [some (.own (jarO j3)), some (.val (.int way)), some (.val (.int z)), c] ∧ 0 ≤ z ∧ z < (1000000000000 : Int) ^ i) (fun i _ => i + 1)
    (s := 0) (e := [some (.own (jarO j2)), some (.val (.int way)), some (.val (.int 0)), none]) (fun t ht i e ⟨z, j3, c, he, hz0, hz1⟩ => by
      subst he
      have hd3 := draw_n (k + 1) L j3 1000000000000 (by decide)
      have e1 := drawV_nonneg j3 (m := 1000000000000) (by decide)
      have e2 := drawV_lt j3 (m := 1000000000000) (by decide)
      generalize drawV j3 1000000000000 = v at hd3 e1 e2
      generalize drawJ j3 1000000000000 = j4 at hd3
      refine ⟨_, _, by simp; rfl, by simp [s_law_number_1, hd3, mulOk_r (i := z) (j := 1000000000000) (by omega)], z * 1000000000000 + v, j4, some (.val (.int t)), rfl, by omega, ?_⟩
      rw [Int.pow_succ]
      omega) ⟨0, j2, none, rfl, by omega, by simp⟩
  have hi : (List.range (1 + n)).foldl (fun i (_ : Nat) => i + 1) 0 = 1 + n := by
    have : ∀ (xs : List Nat) (s : Nat), xs.foldl (fun i (_ : Nat) => i + 1) s = s + xs.length := by
      intro xs
      induction xs with
      | nil => intro s; rfl
      | cons x xs ih => intro s; rw [List.foldl_cons, ih, List.length_cons]; omega
    rw [this, List.length_range, Nat.zero_add]
  rw [hi] at hz1
  have hs : evSrc (callF Pr G0 D0 L (k + 3)) G0 D0 (.rng1 (IE.bin Operator.Add (IE.int 1) (IE.call 15 (IEs.cons (IE.var 0) (IEs.cons (IE.int 5) IEs.nil))))) [some (.own (jarO j1)), some (.val (.int way)), some (.val (.int 0)), none] = .ok ((List.range (1 + n)).map (fun k => T.int (0 + (k : Nat))), none) [some (.own (jarO j2)), some (.val (.int way)), some (.val (.int 0)), none] :=
    src_rng1 (by simp [hd2]) (by omega)
  have f1 : xc (callF Pr G0 D0 L (k + 3)) G0 D0 (fxOf [.own (jarO j)]) L f_law_number_1 [some (.own (jarO j1)), some (.val (.int way)), some (.val (.int 0)), none] = _ := for_ok (L := L) hs hl
  have hd4 := draw_n (k + 1) L j3 2 (by decide)
  generalize drawV j3 2 = s at hd4
  generalize drawJ j3 2 = j5 at hd4
  have hb : z.natAbs < 2 ^ 200 := by
    have h5 : (1000000000000 : Int) ^ (1 + n) ≤ 2 ^ 200 := by
      have : n = 0 ∨ n = 1 ∨ n = 2 ∨ n = 3 ∨ n = 4 := by omega
      rcases this with rfl | rfl | rfl | rfl | rfl <;> decide
    have h6 := Int.lt_of_lt_of_le hz1 h5
    clear hz1 h5
    omega
  clear hl hi hs hz0 hz1
  simp only [unlockE] at f1
  by_cases h6 : s = 0
  · exact ⟨z, j5, hb, by simp [b_law_number, hd, h2, h3, h4, f1, hd4, h6]⟩
  · exact ⟨-z, j5, by rw [Int.natAbs_neg]; exact hb, by simp [b_law_number, hd, h2, h3, h4, f1, hd4, h6]⟩
theorem any_core (j j1 j2 : Jar) (z w : Int) (s : T) (h1 : callF Pr G0 D0 L (k + 4) 82 [.own (jarO j)] = .ok (.val (.int z)) [.own (jarO j1)]) (h2 : callF Pr G0 D0 L (k + 4) 82 [.own (jarO j1)] = .ok (.val (.int w)) [.own (jarO j2)])
    (h3 : callF Pr G0 D0 L (k + 4) 19 [.val (.int z), .val (.int (if w ≠ 0 then w else 1))] = .ok (.val s) [.val (.int z), .val (.int (if w ≠ 0 then w else 1))]) : callF Pr G0 D0 L (k + 5) 83 [.own (jarO j)] = .ok (.val s) [.own (jarO j2)] := by
  rw [callF_succ (f := ⟨1, 3, b_law_any_ratio⟩) rfl rfl]
  by_cases hw : w = 0
  · subst hw
    simp at h3
    simp [b_law_any_ratio, h1, h2, h3]
  · simp [hw] at h3
    simp [b_law_any_ratio, h1, h2, h3, hw]
theorem any_spec (j : Jar) : ∃ (q : Rat) (j' : Jar), Rsz q 200 ∧ callF Pr G0 D0 L (k + 5) 83 [.own (jarO j)] = .ok (.val (rt q)) [.own (jarO j')] := by
  obtain ⟨z, j1, hz, h1⟩ := number_spec k L j
  obtain ⟨w, j2, hw, h2⟩ := number_spec k L j1
  have h0 : (if w ≠ 0 then w else 1) ≠ 0 := by split <;> omega
  have hs : (if w ≠ 0 then w else 1).natAbs < 2 ^ 200 := by
    split
    · exact hw
    · decide
  have hr := rat_spec (k + 2) L z _ h0 (Nat.lt_of_lt_of_le hz (Nat.pow_le_pow_right (by decide) (by decide))) (Nat.lt_of_lt_of_le hs (Nat.pow_le_pow_right (by decide) (by decide)))
  exact ⟨_, j2, divInt_sz h0 hz hs, any_core k L j j1 j2 z w _ h1 h2 hr⟩
theorem rt_zero : rt 0 = .tup [.int 0, .int 1] := rfl
theorem unit_rt (s d : Int) (hs : s = 1 ∨ s = -1) (hd : 0 < d) : T.tup [.int s, .int d] = rt (Rat.divInt s d) := by
  obtain ⟨h1, h2⟩ := divInt_eq (n := s) hd
  have hg : ((Int.gcd s d : Nat) : Int) = 1 := by rcases hs with rfl | rfl <;> simp
  rw [hg] at h1 h2
  unfold rt
  rw [h1, h2]
  simp
end G
namespace G
open PySem PySem.Spec PyProof.Rows L2

variable (k L : Nat)
theorem p9000 {a : Nat} {n : Nat} (h : a < 2 ^ n) (hn : n ≤ 9000) : a < 2 ^ 9000 := Nat.lt_of_lt_of_le h (Nat.pow_le_pow_right (by decide) hn)
theorem pick_unit (j : Jar) : ∃ (s : Int) (j' : Jar), (s = 1 ∨ s = -1) ∧ callF Pr G0 D0 L (k + 3) 17 [.own (jarO j), .own (.lst [.int 1, .int (-1)])] = .ok (.val (.int s)) [.own (jarO j'), .own (.lst [.int 1, .int (-1)])] := by
  have h := pick_spec k L j _ [.int 1, .int (-1)] (.inl rfl) (by decide) (by decide)
  have hm := pickV_mem j (xs := [.int 1, .int (-1)]) (by decide)
  rcases List.mem_cons.mp hm with e | e
  · rw [e] at h; exact ⟨1, _, .inl rfl, h⟩
  · have e := List.mem_singleton.mp e
    rw [e] at h; exact ⟨-1, _, .inr rfl, h⟩
theorem second_spec (j : Jar) (q : Rat) (hq : Rsz q 200) : ∃ (r : Rat) (j' : Jar), Rsz r 230 ∧ callF Pr G0 D0 L (k + 6) 84 [.own (jarO j), .val (rt q)] = .ok (.val (rt r)) [.own (jarO j'), .val (rt q)] := by
  rw [callF_succ (f := ⟨2, 3, b_law_second⟩) rfl rfl]
  have hd := draw_n (k + 3) L j 8 (by decide)
  generalize drawV j 8 = way at hd
  generalize drawJ j 8 = j1 at hd
  have eq : rt q = .tup [.int q.num, .int (q.den : Int)] := rfl
  by_cases w0 : way = 0
  · exact ⟨q, j1, hq.mono (by decide), by simp [b_law_second, hd, w0]⟩
  by_cases w1 : way = 1
  · refine ⟨-q, j1, (neg_sz hq).mono (by decide), ?_⟩
    have e2 : rt (-q) = .tup [.int (-q.num), .int (q.den : Int)] := by unfold rt; rw [Rat.neg_num, Rat.neg_den]
    rw [e2, eq]
    simp [b_law_second, hd, w1]
  by_cases w2 : way = 2
  · obtain ⟨s, j2, hs, hp⟩ := pick_unit (k + 2) L j1
    have hd2 := draw_n (k + 3) L j2 1000000 (by decide)
    have d1 := drawV_nonneg j2 (m := 1000000) (by decide)
    have d2 := drawV_lt j2 (m := 1000000) (by decide)
    generalize drawV j2 1000000 = v at hd2 d1 d2
    generalize drawJ j2 1000000 = j3 at hd2
    have eu := unit_rt s (1 + v) hs (by omega)
    have hsz : Rsz (Rat.divInt s (1 + v)) 20 := divInt_sz (by omega) (by rcases hs with rfl | rfl <;> decide) (by omega)
    have ha := law_add_spec (k + 2) L q _ hq hsz (by decide) (by decide) (by decide)
    rw [← eu] at ha
    refine ⟨q + Rat.divInt s (1 + v), j3, (add_sz hq hsz).mono (by decide), ?_⟩
    generalize rt (q + Rat.divInt s (1 + v)) = R at ha
    generalize rt q = Q at ha
    simp [b_law_second, hd, w2, hp, hd2, ha]
  by_cases w3 : way = 3 ∧ q.num ≠ 0
  · obtain ⟨w3, hn⟩ := w3
    have hdn : ((q.den : Int)).natAbs < 2 ^ 200 := by simpa using hq.2
    have hr := rat_spec (k + 3) L q.den q.num hn (p9000 hdn (by decide)) (p9000 hq.1 (by decide))
    refine ⟨Rat.divInt q.den q.num, j1, (divInt_sz hn hdn hq.1).mono (by decide), ?_⟩
    generalize rt (Rat.divInt q.den q.num) = R at hr
    rw [eq]
    simp [b_law_second, hd, w3, hn, hr]
  by_cases w4 : way = 4
  · refine ⟨0, j1, ⟨by decide, by decide⟩, ?_⟩
    rw [rt_zero]
    simp [b_law_second, hd, w4]
  · obtain ⟨r, j2, hr, ha⟩ := any_spec k L j1
    refine ⟨r, j2, hr.mono (by decide), ?_⟩
    rw [eq]
    by_cases h3 : way = 3
    · have hn : q.num = 0 := by
        by_cases hz : q.num = 0
        · exact hz
        · exact absurd ⟨h3, hz⟩ w3
      subst h3
      simp [b_law_second, hd, hn, ha]
    · simp [b_law_second, hd, w0, w1, w2, h3, w4, ha]
theorem ratB_one (t : Int) : ratB t 1 = true := by simp [ratB]
theorem made_zero (t : Int) (W : T) (hW : W = .tup [.int t, .int 1]) (h1 : callF Pr G0 D0 L (k + 2) 0 [.val (.int t), .val (.int 1)] = .ok (.val W) [.val (.int t), .val (.int 1)]) (h2 : callF Pr G0 D0 L (k + 2) 63 [.val W] = .ok (.val (.bl true)) [.val W])
  (h3 : callF Pr G0 D0 L (k + 2) 0 [.val (.int t), .val (.int 0)] = .exc (.blt "ZeroDivisionError") [.val (.int t), .val (.int 0)]) :
    callF Pr G0 D0 L (k + 3) 85 [.val (.int t), .val (.int 0)] = .ok (.val (.bl true)) [.val (.int t), .val (.int 0)] := by
  rw [callF_succ (f := ⟨2, 4, b_law_made⟩) rfl rfl]
  subst hW
  simp [b_law_made, h1, h2, h3]
theorem made_core (t l : Int) (W Q : T) (hW : W = .tup [.int t, .int 1]) (h1 : callF Pr G0 D0 L (k + 2) 0 [.val (.int t), .val (.int 1)] = .ok (.val W) [.val (.int t), .val (.int 1)]) (h2 : callF Pr G0 D0 L (k + 2) 63 [.val W] = .ok (.val (.bl true)) [.val W])
  (hl : ¬ l = 0) (h3 : callF Pr G0 D0 L (k + 2) 0 [.val (.int t), .val (.int l)] = .ok (.val Q) [.val (.int t), .val (.int l)]) (h4 : callF Pr G0 D0 L (k + 2) 63 [.val Q] = .ok (.val (.bl true)) [.val Q])
  (h5 : callF Pr G0 D0 L (k + 2) 19 [.val (.int t), .val (.int l)] = .ok (.val Q) [.val (.int t), .val (.int l)]) (h6 : eqR Q Q = some true) :
    callF Pr G0 D0 L (k + 3) 85 [.val (.int t), .val (.int l)] = .ok (.val (.bl true)) [.val (.int t), .val (.int l)] := by
  rw [callF_succ (f := ⟨2, 4, b_law_made⟩) rfl rfl]
  subst hW
  simp [b_law_made, h1, h2, h3, h4, h5, h6, hl]
theorem made_spec (t l : Int) (ht : t.natAbs < 2 ^ 1000) (hl : l.natAbs < 2 ^ 1000) : callF Pr G0 D0 L (k + 3) 85 [.val (.int t), .val (.int l)] = .ok (.val (.bl true)) [.val (.int t), .val (.int l)] := by
  have h1 := ratio_spec (k + 1) L t 1 (by decide) (p9000 (n := 1) (by decide) (by decide))
  have z1 : Rsz (Rat.divInt t 1) 1000 := divInt_sz (by decide) ht (Nat.lt_of_lt_of_le (show (1 : Int).natAbs < 2 ^ 1 by decide) (Nat.pow_le_pow_right (by decide) (by decide)))
  have h2 := law_is_ratio_rt k L _ z1 (by decide)
  have hW : rt (Rat.divInt t 1) = .tup [.int t, .int 1] := by
    obtain ⟨p1, p2⟩ := divInt_eq (n := t) (d := 1) (by decide)
    unfold rt
    rw [p1, p2]
    simp
  by_cases h0 : l = 0
  · subst h0
    exact made_zero k L t _ hW h1 h2 (ratio_zero (k + 1) L t)
  · have h3 := ratio_spec (k + 1) L t l h0 (p9000 hl (by decide))
    have h4 := law_is_ratio_rt k L _ (divInt_sz h0 ht hl) (by decide)
    have h5 := rat_spec k L t l h0 (p9000 ht (by decide)) (p9000 hl (by decide))
    exact made_core k L t l _ _ hW h1 h2 h0 h3 h4 h5 (by rw [eqR_rt]; simp)
theorem reckoned_core (an ad bn bd dn dd : Int) (S P Q : T)
  (a1 : callF Pr G0 D0 L (k + 5) 37 [.val (.tup [.int an, .int ad]), .val (.tup [.int bn, .int bd])] = .ok (.val S) [.val (.tup [.int an, .int ad]), .val (.tup [.int bn, .int bd])])
  (a2 : callF Pr G0 D0 L (k + 5) 37 [.val (.tup [.int an, .int ad]), .val (.tup [.int (-bn), .int bd])] = .ok (.val (.tup [.int dn, .int dd])) [.val (.tup [.int an, .int ad]), .val (.tup [.int (-bn), .int bd])])
  (a3 : callF Pr G0 D0 L (k + 5) 38 [.val (.tup [.int an, .int ad]), .val (.tup [.int bn, .int bd])] = .ok (.val P) [.val (.tup [.int an, .int ad]), .val (.tup [.int bn, .int bd])])
  (b1 : callF Pr G0 D0 L (k + 5) 1 [.val (.tup [.int an, .int ad]), .val (.tup [.int bn, .int bd])] = .ok (.val S) [.val (.tup [.int an, .int ad]), .val (.tup [.int bn, .int bd])])
  (b2 : callF Pr G0 D0 L (k + 5) 55 [.val (.tup [.int an, .int ad]), .val (.tup [.int bn, .int bd])] = .ok (.val (.tup [.int dn, .int dd])) [.val (.tup [.int an, .int ad]), .val (.tup [.int bn, .int bd])])
  (b3 : callF Pr G0 D0 L (k + 5) 29 [.val (.tup [.int an, .int ad]), .val (.tup [.int bn, .int bd])] = .ok (.val P) [.val (.tup [.int an, .int ad]), .val (.tup [.int bn, .int bd])])
  (b4 : callF Pr G0 D0 L (k + 5) 54 [.val (.tup [.int bn, .int bd])] = .ok (.val (.tup [.int (-bn), .int bd])) [.val (.tup [.int bn, .int bd])])
  (c1 : callF Pr G0 D0 L (k + 5) 63 [.val S] = .ok (.val (.bl true)) [.val S]) (c2 : callF Pr G0 D0 L (k + 5) 63 [.val (.tup [.int dn, .int dd])] = .ok (.val (.bl true)) [.val (.tup [.int dn, .int dd])])
  (c3 : callF Pr G0 D0 L (k + 5) 63 [.val P] = .ok (.val (.bl true)) [.val P]) (c4 : callF Pr G0 D0 L (k + 5) 63 [.val (.tup [.int (-bn), .int bd])] = .ok (.val (.bl true)) [.val (.tup [.int (-bn), .int bd])])
  (e1 : eqR S S = some true) (e3 : eqR P P = some true)
  (g : callF Pr G0 D0 L (k + 5) 76 [.val (.tup [.int an, .int ad]), .val (.tup [.int bn, .int bd])] = .ok (.val (.bl (decide (dn < 0)))) [.val (.tup [.int an, .int ad]), .val (.tup [.int bn, .int bd])])
  (o : (bn = 0 ∧ callF Pr G0 D0 L (k + 5) 56 [.val (.tup [.int an, .int ad]), .val (.tup [.int bn, .int bd])] = .exc (.blt "ZeroDivisionError") [.val (.tup [.int an, .int ad]), .val (.tup [.int bn, .int bd])]) ∨
    (¬ bn = 0 ∧ mulOk an bd = true ∧ mulOk ad bn = true ∧ callF Pr G0 D0 L (k + 5) 56 [.val (.tup [.int an, .int ad]), .val (.tup [.int bn, .int bd])] = .ok (.val Q) [.val (.tup [.int an, .int ad]), .val (.tup [.int bn, .int bd])] ∧
      callF Pr G0 D0 L (k + 5) 63 [.val Q] = .ok (.val (.bl true)) [.val Q] ∧ callF Pr G0 D0 L (k + 5) 19 [.val (.int (an * bd)), .val (.int (ad * bn))] = .ok (.val Q) [.val (.int (an * bd)), .val (.int (ad * bn))] ∧ eqR Q Q = some true)) :
    callF Pr G0 D0 L (k + 6) 86 [.val (.tup [.int an, .int ad]), .val (.tup [.int bn, .int bd])] = .ok (.val (.bl true)) [.val (.tup [.int an, .int ad]), .val (.tup [.int bn, .int bd])] := by
  rw [callF_succ (f := ⟨2, 8, b_law_reckoned⟩) rfl rfl]
  have hfx : fxOf [.val (.tup [.int an, .int ad]), .val (.tup [.int bn, .int bd])] = fxOf [.val .non, .val .non] := by
    funext i
    match i with
    | 0 => rfl
    | 1 => rfl
    | _ + 2 => rfl
  obtain ⟨e', hl, c, he⟩ := forL_st (fx := fxOf [.val (.tup [.int an, .int ad]), .val (.tup [.int bn, .int bd])]) (tg := .name 5) (body := xcs (callF Pr G0 D0 L (k + 5)) G0 D0 (fxOf [.val (.tup [.int an, .int ad]), .val (.tup [.int bn, .int bd])]) L s_law_reckoned_1) (f := fun (t : Nat) => T.int (0 + (t : Int))) (xs := List.range 4)
    (fun (s : Unit) e => ∃ c : Option Iv, e = [some (.val (.tup [.int an, .int ad])), some (.val (.tup [.int bn, .int bd])), some (.val (.tup [.int (-bn), .int bd])), some (.own (.lst [S, .tup [.int dn, .int dd], P, .tup [.int (-bn), .int bd]])), some (.own (.lst [S, .tup [.int dn, .int dd], P, .tup [.int (-bn), .int bd]])), c, none, none]) (fun s _ => s)
    (s := ()) (e := [some (.val (.tup [.int an, .int ad])), some (.val (.tup [.int bn, .int bd])), some (.val (.tup [.int (-bn), .int bd])), some (.own (.lst [S, .tup [.int dn, .int dd], P, .tup [.int (-bn), .int bd]])), some (.own (.lst [S, .tup [.int dn, .int dd], P, .tup [.int (-bn), .int bd]])), none, none, none]) (fun t ht s e ⟨c, he⟩ => by
      subst he
      have ht : t = 0 ∨ t = 1 ∨ t = 2 ∨ t = 3 := by have := List.mem_range.mp ht; omega
      refine ⟨_, _, by simp; rfl, ?_, some (.val (.int t)), rfl⟩
      rcases ht with rfl | rfl | rfl | rfl <;> simp [s_law_reckoned_1, c1, c2, c3, c4, e1, e3]) ⟨none, rfl⟩
  have f1 : xc (callF Pr G0 D0 L (k + 5)) G0 D0 (fxOf [.val (.tup [.int an, .int ad]), .val (.tup [.int bn, .int bd])]) L f_law_reckoned_1 [some (.val (.tup [.int an, .int ad])), some (.val (.tup [.int bn, .int bd])), some (.val (.tup [.int (-bn), .int bd])), some (.own (.lst [S, .tup [.int dn, .int dd], P, .tup [.int (-bn), .int bd]])), some (.own (.lst [S, .tup [.int dn, .int dd], P, .tup [.int (-bn), .int bd]])), none, none, none] = _ :=
    for_ok (L := L) (src_rng1 (z := 4) (by simp) (by omega)) hl
  subst he
  simp only [unlockE] at f1
  rcases o with ⟨rfl, o1⟩ | ⟨o0, m1, m2, o1, o2, o3, o4⟩
  · simp only [Int.neg_zero] at a2 b4 f1
    have hS : S = .tup [.int dn, .int dd] := by have := a1.symm.trans a2; simpa using this
    subst hS
    simp [b_law_reckoned, a1, a3, b1, b2, b3, b4, f1, g, o1, eqR_bl]
  · simp [b_law_reckoned, a1, a2, a3, b1, b2, b3, b4, f1, g, o1, eqR_bl, o0, m1, m2, o2, o3, o4]
theorem less_sub (a b : Rat) : decide (a.num * (b.den : Int) < b.num * (a.den : Int)) = decide ((a + -b).num < 0) := by
  refine decide_eq_decide.mpr ?_
  rw [← Rat.lt_iff]
  have h : ¬ (0 ≤ (a + -b).num) ↔ ¬ (0 ≤ a + -b) := not_congr Rat.num_nonneg
  rw [Int.not_le] at h
  rw [h, Rat.not_le]
  constructor <;> intro h <;> grind
theorem reckoned_spec (a b : Rat) (ha : Rsz a 230) (hb : Rsz b 230) : callF Pr G0 D0 L (k + 6) 86 [.val (rt a), .val (rt b)] = .ok (.val (.bl true)) [.val (rt a), .val (rt b)] := by
  have hnb := neg_sz hb
  have a1 := law_add_spec (k + 2) L a b ha hb (by decide) (by decide) (by decide)
  have a2 := law_add_spec (k + 2) L a (-b) ha hnb (by decide) (by decide) (by decide)
  have a3 := law_mul_spec (k + 2) L a b ha hb (by decide) (by decide) (by decide)
  have b1 := plus_spec (k + 3) L a b ha hb (by decide) (by decide) (by decide)
  have b2 := minus_spec (k + 2) L a b ha hb (by decide) (by decide) (by decide)
  have b3 := times_spec (k + 3) L a b ha hb (by decide) (by decide) (by decide)
  have b4 := negated_spec (k + 4) L b
  have c1 := law_is_ratio_rt (k + 3) L (a + b) (add_sz ha hb) (by decide)
  have c2 := law_is_ratio_rt (k + 3) L (a + -b) (add_sz ha hnb) (by decide)
  have c3 := law_is_ratio_rt (k + 3) L (a * b) (mul_sz ha hb) (by decide)
  have c4 := law_is_ratio_rt (k + 3) L (-b) hnb (by decide)
  have g := below_spec (k + 4) L a b ha hb (by decide) (by decide) (by decide)
  rw [less_sub] at g
  rw [Rat.sub_eq_add_neg] at b2
  have en : rt (-b) = .tup [.int (-b.num), .int (b.den : Int)] := by unfold rt; rw [Rat.neg_num, Rat.neg_den]
  rw [en] at a2 b4 c4
  have m1 : mulOk a.num b.den = true := mulOk_sz (n := 230) (m := 230) ha.1 (by simpa using hb.2) (by decide) (by decide) (by decide)
  have m2 : mulOk a.den b.num = true := mulOk_sz (n := 230) (m := 230) (a := a.den) (by simpa using ha.2) hb.1 (by decide) (by decide) (by decide)
  by_cases h0 : b.num = 0
  · refine reckoned_core k L _ _ _ _ _ _ _ _ (.int 0) a1 a2 a3 b1 b2 b3 b4 c1 c2 c3 c4 (by rw [eqR_rt]; simp) (by rw [eqR_rt]; simp) g (.inl ⟨h0, ?_⟩)
    have := over_zero_core (k + 3) L a.num a.den b.den m1
    rw [h0]
    exact this
  · have o1 := over_spec (k + 3) L a b h0 ha hb (by decide) (by decide) (by decide)
    have hp : (a.den : Int) * b.num ≠ 0 := Int.mul_ne_zero (by have := den_pos' a; omega) h0
    have z1 : (a.num * b.den).natAbs < 2 ^ (230 + 230) := natAbs_lt_mul ha.1 (by simpa using hb.2)
    have z2 : ((a.den : Int) * b.num).natAbs < 2 ^ (230 + 230) := natAbs_lt_mul (by simpa using ha.2) hb.1
    have o2 := law_is_ratio_rt (k + 3) L (quo a b) (divInt_sz hp z1 z2) (by decide)
    have o3 := rat_spec (k + 3) L (a.num * b.den) (a.den * b.num) hp (p9000 z1 (by decide)) (p9000 z2 (by decide))
    clear z1 z2
    exact reckoned_core k L _ _ _ _ _ _ _ _ (rt (quo a b)) a1 a2 a3 b1 b2 b3 b4 c1 c2 c3 c4 (by rw [eqR_rt]; simp) (by rw [eqR_rt]; simp) g (.inr ⟨h0, m1, m2, o1, o2, o3, by rw [eqR_rt]; simp⟩)
end G
namespace G
open PySem PySem.Spec PyProof.Rows L2

variable (k L : Nat)
/-! # rows of ratios, added -/
def sumQ : List Rat → Rat
  | [] => 0
  | x :: xs => x + sumQ xs
theorem sumQ_snoc (x : Rat) : ∀ xs : List Rat, sumQ (xs ++ [x]) = sumQ xs + x
  | [] => by show x + 0 = 0 + x; grind
  | y :: ys => by
    show y + sumQ (ys ++ [x]) = y + sumQ ys + x
    rw [sumQ_snoc x ys, Rat.add_assoc]
theorem sumQ_sz : ∀ (xs : List Rat), (∀ q ∈ xs, Rsz q 230) → Rsz (sumQ xs) (1 + 231 * xs.length)
  | [], _ => ⟨by decide, by decide⟩
  | x :: xs, h => by
    have h1 := sumQ_sz xs fun q hq => h q (by simp [hq])
    exact (add_sz (h x (by simp)) h1).mono (by rw [List.length_cons]; omega)
theorem row_core (xs : List T) (Tt Z : T) (c : Option Iv) (c2 : Option Iv) (hZ : Z = .tup [.int 0, .int 1])
  (f1 : xc (callF Pr G0 D0 L (k + 5)) G0 D0 (fxOf [.own (.lst xs)]) L f_law_row_added_1 [some (.own (.lst xs)), some (.val Z), some (.val Z), none] = .ok .nxt [some (.own (.lst xs)), some (.val Tt), some (.val Tt), c])
  (f2 : xc (callF Pr G0 D0 L (k + 5)) G0 D0 (fxOf [.own (.lst xs)]) L f_law_row_added_2 [some (.own (.lst xs)), some (.val Tt), some (.val Tt), c] = .ok .nxt [some (.own (.lst xs)), some (.val Z), some (.val Tt), c2])
  (h1 : callF Pr G0 D0 L (k + 5) 63 [.val Tt] = .ok (.val (.bl true)) [.val Tt]) (h2 : eqR Tt Tt = some true) :
    callF Pr G0 D0 L (k + 6) 87 [.own (.lst xs)] = .ok (.val (.bl true)) [.own (.lst xs)] := by
  rw [callF_succ (f := ⟨1, 4, b_law_row_added⟩) rfl rfl]
  subst hZ
  simp [b_law_row_added, f1, f2, h1, h2]
theorem row_spec (qs : List Rat) (hq : ∀ q ∈ qs, Rsz q 230) (hl : qs.length ≤ 10) : callF Pr G0 D0 L (k + 6) 87 [.own (.lst (qs.map rt))] = .ok (.val (.bl true)) [.own (.lst (qs.map rt))] := by
  obtain ⟨e1, hl1, _, c, he1⟩ := forL_pos (fx := fxOf [.own (.lst (qs.map rt))]) (tg := .name 3) (body := xcs (callF Pr G0 D0 L (k + 5)) G0 D0 (fxOf [.own (.lst (qs.map rt))]) L s_law_row_added_1) (f := rt) (xs := qs) (pre := [])
    (fun pre xs e => pre ++ xs = qs ∧ ∃ c : Option Iv, e = [some (.lck (.lst (qs.map rt))), some (.val (rt (sumQ pre))), some (.val (rt (sumQ pre))), c])
    (e := [some (.lck (.lst (qs.map rt))), some (.val (rt (sumQ []))), some (.val (rt (sumQ []))), none]) (fun pre x xs e ⟨hp, c, he⟩ => by
      subst he
      have hx : Rsz x 230 := hq x (by rw [← hp]; simp)
      have hs := sumQ_sz pre fun q hm => hq q (by rw [← hp]; simp [hm])
      have hn : pre.length ≤ 9 := by have := congrArg List.length hp; simp at this; omega
      have p1 := plus_spec (k + 3) L (sumQ pre) x hs hx (by omega) (by decide) (by omega)
      have p2 := law_add_spec (k + 2) L (sumQ pre) x hs hx (by omega) (by decide) (by omega)
      rw [sumQ_snoc]
      generalize rt (sumQ pre + x) = R at p1 p2
      generalize rt (sumQ pre) = S at p1 p2
      clear hs
      generalize rt x = Y at p1 p2
      exact ⟨_, _, by simp; rfl, by simp [s_law_row_added_1, p1, p2], by simp [hp], some (.val Y), rfl⟩) ⟨rfl, none, rfl⟩
  obtain ⟨e2, hl2, _, c2, he2⟩ := forL_pos (fx := fxOf [.own (.lst (qs.map rt))]) (tg := .name 3) (body := xcs (callF Pr G0 D0 L (k + 5)) G0 D0 (fxOf [.own (.lst (qs.map rt))]) L s_law_row_added_2) (f := rt) (xs := qs) (pre := [])
    (fun pre xs e => pre ++ xs = qs ∧ ∃ c : Option Iv, e = [some (.lck (.lst (qs.map rt))), some (.val (rt (sumQ xs))), some (.val (rt (sumQ qs))), c])
    (e := [some (.lck (.lst (qs.map rt))), some (.val (rt (sumQ qs))), some (.val (rt (sumQ qs))), c]) (fun pre x xs e ⟨hp, c, he⟩ => by
      subst he
      have hx : Rsz x 230 := hq x (by rw [← hp]; simp)
      have hs := sumQ_sz (x :: xs) fun q hm => hq q (by rw [← hp]; exact List.mem_append_right _ hm)
      have hn : (x :: xs).length ≤ 10 := by have := congrArg List.length hp; simp at this; simp; omega
      have p1 := minus_spec (k + 2) L (sumQ (x :: xs)) x hs hx (by omega) (by decide) (by omega)
      have e3 : sumQ (x :: xs) - x = sumQ xs := by
        show x + sumQ xs - x = sumQ xs
        grind
      rw [e3] at p1
      clear hs hx e3
      generalize rt (sumQ xs) = R at p1
      generalize rt (sumQ (x :: xs)) = S at p1
      generalize rt (sumQ qs) = U
      generalize rt x = Y at p1
      exact ⟨_, _, by simp; rfl, by simp [s_law_row_added_2, p1], by simp [hp], some (.val Y), rfl⟩) ⟨rfl, c, rfl⟩
  have hst := sumQ_sz qs hq
  have h1 := law_is_ratio_rt (k + 3) L (sumQ qs) hst (by omega)
  have h2 : eqR (rt (sumQ qs)) (rt (sumQ qs)) = some true := by rw [eqR_rt]; simp
  rw [List.nil_append] at he1
  subst he1 he2
  have hlen : (qs.map rt).length ≤ 100000 := by simp; omega
  clear hst
  have hz : rt (sumQ []) = .tup [.int 0, .int 1] := rfl
  generalize rt (sumQ qs) = U at *
  generalize rt (sumQ []) = Z at *
  have f1 : xc (callF Pr G0 D0 L (k + 5)) G0 D0 (fxOf [.own (.lst (qs.map rt))]) L f_law_row_added_1 [some (.own (.lst (qs.map rt))), some (.val Z), some (.val Z), none] = _ :=
    for_ok (L := L) (items := qs.map rt) (lk := some 0) (e1 := [some (.own (.lst (qs.map rt))), some (.val Z), some (.val Z), none]) (by simp) hl1
  have f2 : xc (callF Pr G0 D0 L (k + 5)) G0 D0 (fxOf [.own (.lst (qs.map rt))]) L f_law_row_added_2 [some (.own (.lst (qs.map rt))), some (.val U), some (.val U), c] = _ :=
    for_ok (L := L) (items := qs.map rt) (lk := some 0) (e1 := [some (.own (.lst (qs.map rt))), some (.val U), some (.val U), c]) (by simp) hl2
  exact row_core k L _ U Z c c2 hz f1 f2 h1 h2
/-! # what is no ratio -/
theorem kinds_core (X : T) (t l f : Int) (hX : X = .tup [.int t, .int l]) (hl : 1 ≤ l) (hf : 2 ≤ f) (hf2 : f ≤ 100) (hg : Nat.gcd t.natAbs l.natAbs = 1) (m1 : mulOk f t = true) (m2 : mulOk f l = true) :
    callF Pr G0 D0 L (k + 3) 90 [.val X, .val (.int f)] = .ok (.val (.bl true)) [.val X, .val (.int f)] := by
  subst hX
  rw [callF_succ (f := ⟨2, 5, b_law_kinds⟩) rfl rfl]
  have r0 := is_ratio_spec k L t l
  have hB : ratB t l = true := by simp [ratB, hl, hg]
  rw [hB] at r0
  have hz : ¬ Nat.gcd (f * t).natAbs (f * l).natAbs = 1 := by
    rw [Int.natAbs_mul, Int.natAbs_mul, Nat.gcd_mul_left, hg, Nat.mul_one]
    omega
  have hmul : ratB (f * t) (f * l) = false := by
    unfold ratB
    rw [decide_eq_false hz, Bool.and_false]
  have hneg : ratB t (-l) = false := by
    unfold ratB
    rw [decide_eq_false (show ¬ 1 ≤ -l by omega), Bool.false_and]
  have hzero : ratB t 0 = false := by
    unfold ratB
    rw [decide_eq_false (show ¬ (1 : Int) ≤ 0 by omega), Bool.false_and]
  have all1 : ∀ x ∈ [T.tup [.int (f * t), .int (f * l)], .tup [.int t, .int (-l)], .tup [.int t, .int 0], .tup [.int t, .int l, .int 1], .tup [.int t], .tup [], .lst [.int t, .int l]],
      callF Pr G0 D0 L (k + 2) 78 [.val x] = .ok (.val (.bl false)) [.val x] ∧ callF Pr G0 D0 L (k + 2) 77 [.val x] = .ok (.val (.bl false)) [.val x] := by
    intro x hx
    simp only [List.mem_cons, List.not_mem_nil, or_false] at hx
    rcases hx with rfl | rfl | rfl | rfl | rfl | rfl | rfl
    · exact ⟨by rw [is_ratio_spec, hmul], is_whole_spec _ L _ rfl⟩
    · exact ⟨by rw [is_ratio_spec, hneg], is_whole_spec _ L _ rfl⟩
    · exact ⟨by rw [is_ratio_spec, hzero], is_whole_spec _ L _ rfl⟩
    · exact ⟨is_ratio_no _ L _ ⟨by simp, by simp⟩, is_whole_spec _ L _ rfl⟩
    · exact ⟨is_ratio_no _ L _ ⟨by simp, by simp⟩, is_whole_spec _ L _ rfl⟩
    · exact ⟨is_ratio_no _ L _ ⟨by simp, by simp⟩, is_whole_spec _ L _ rfl⟩
    · exact ⟨is_ratio_no _ L _ trivial, is_whole_spec _ L _ rfl⟩
  have all2 : ∀ x ∈ [T.non, .bl true, .bl false, .str "1", .str "1/2"],
      callF Pr G0 D0 L (k + 2) 78 [.val x] = .ok (.val (.bl false)) [.val x] ∧ callF Pr G0 D0 L (k + 2) 77 [.val x] = .ok (.val (.bl false)) [.val x] ∧
      callF Pr G0 D0 L (k + 2) 78 [.val (.tup [x, .int l])] = .ok (.val (.bl false)) [.val (.tup [x, .int l])] ∧ callF Pr G0 D0 L (k + 2) 78 [.val (.tup [.int t, x])] = .ok (.val (.bl false)) [.val (.tup [.int t, x])] := by
    intro x hx
    simp only [List.mem_cons, List.not_mem_nil, or_false] at hx
    rcases hx with rfl | rfl | rfl | rfl | rfl <;> exact ⟨is_ratio_no _ L _ trivial, is_whole_spec _ L _ rfl, is_ratio_no _ L _ ⟨rfl, rfl, .inl rfl⟩, is_ratio_no _ L _ ⟨rfl, rfl, .inr rfl⟩⟩
  have w1 := is_whole_spec (k + 1) L (.int t) rfl
  have w2 := is_whole_spec (k + 1) L (.int l) rfl
  have w3 := is_whole_spec (k + 1) L (.tup [.int t, .int l]) rfl
  have w4 := is_ratio_no k L (.int t) trivial
  simp only [wholeT] at w1 w2 w3
  obtain ⟨e1, hl1, c, he1⟩ := forL_st (fx := fxOf [.val (.tup [.int t, .int l]), .val (.int f)]) (tg := .name 4) (body := xcs (callF Pr G0 D0 L (k + 2)) G0 D0 (fxOf [.val (.tup [.int t, .int l]), .val (.int f)]) L s_law_kinds_1) (f := fun t => t) (xs := [T.tup [.int (f * t), .int (f * l)], .tup [.int t, .int (-l)], .tup [.int t, .int 0], .tup [.int t, .int l, .int 1], .tup [.int t], .tup [], .lst [.int t, .int l]])
    (fun (s : Unit) e => ∃ c : Option Iv, e = [some (.val (.tup [.int t, .int l])), some (.val (.int f)), some (.val (.int t)), some (.val (.int l)), c]) (fun s _ => s)
    (s := ()) (e := [some (.val (.tup [.int t, .int l])), some (.val (.int f)), some (.val (.int t)), some (.val (.int l)), none]) (fun x hx s e ⟨c, he⟩ => by
      subst he
      obtain ⟨q1, q2⟩ := all1 x hx
      exact ⟨_, _, by simp; rfl, by simp [s_law_kinds_1, q1, q2], some (.val x), rfl⟩) ⟨none, rfl⟩
  obtain ⟨e2, hl2, c2, he2⟩ := forL_st (fx := fxOf [.val (.tup [.int t, .int l]), .val (.int f)]) (tg := .name 4) (body := xcs (callF Pr G0 D0 L (k + 2)) G0 D0 (fxOf [.val (.tup [.int t, .int l]), .val (.int f)]) L s_law_kinds_2) (f := fun t => t) (xs := [T.non, .bl true, .bl false, .str "1", .str "1/2"])
    (fun (s : Unit) e => ∃ c : Option Iv, e = [some (.val (.tup [.int t, .int l])), some (.val (.int f)), some (.val (.int t)), some (.val (.int l)), c]) (fun s _ => s)
    (s := ()) (e := [some (.val (.tup [.int t, .int l])), some (.val (.int f)), some (.val (.int t)), some (.val (.int l)), c]) (fun x hx s e ⟨c, he⟩ => by
      subst he
      obtain ⟨q1, q2, q3, q4⟩ := all2 x hx
      exact ⟨_, _, by simp; rfl, by simp [s_law_kinds_2, q1, q2, q3, q4], some (.val x), rfl⟩) ⟨c, rfl⟩
  subst he1 he2
  rw [List.map_id'] at hl1 hl2
  have f1 : xc (callF Pr G0 D0 L (k + 2)) G0 D0 (fxOf [.val (.tup [.int t, .int l]), .val (.int f)]) L f_law_kinds_1 [some (.val (.tup [.int t, .int l])), some (.val (.int f)), some (.val (.int t)), some (.val (.int l)), none] = _ :=
    for_ok (L := L) (lk := none) (e1 := [some (.val (.tup [.int t, .int l])), some (.val (.int f)), some (.val (.int t)), some (.val (.int l)), none]) (by simp [m1, m2]) hl1
  have f2 : xc (callF Pr G0 D0 L (k + 2)) G0 D0 (fxOf [.val (.tup [.int t, .int l]), .val (.int f)]) L f_law_kinds_2 [some (.val (.tup [.int t, .int l])), some (.val (.int f)), some (.val (.int t)), some (.val (.int l)), c] = _ :=
    for_ok (L := L) (lk := none) (e1 := [some (.val (.tup [.int t, .int l])), some (.val (.int f)), some (.val (.int t)), some (.val (.int l)), c]) (by simp) hl2
  clear all1 all2 hl1 hl2
  simp only [unlockE] at f1 f2
  simp [b_law_kinds, r0, w1, w2, w3, w4, f1, f2]
theorem kinds_spec (q : Rat) (hq : Rsz q 230) (f : Int) (hf : 2 ≤ f) (hf2 : f ≤ 100) : callF Pr G0 D0 L (k + 3) 90 [.val (rt q), .val (.int f)] = .ok (.val (.bl true)) [.val (rt q), .val (.int f)] := by
  have h2 := q.den_pos
  exact kinds_core k L _ q.num q.den f rfl (by omega) hf hf2 (by have := q.reduced; unfold Nat.Coprime at this; simpa using this) (mulOk_l (by omega)) (mulOk_l (by omega))
end G
namespace G
open PySem PySem.Spec PyProof.Rows L2

/-! # a comprehension that changes what stands about it -/
theorem lcLoop_inv {step : T → Env → Out (Option T)} {vs : List Nat} {I : Env → Prop} {P : T → Prop} : ∀ {xs acc : List T} {e : Env}, (∀ t ∈ xs, ∀ e, I (wipeE e vs) → ∃ y e', step t e = .ok (some y) e' ∧ I (wipeE e' vs) ∧ P y) → I (wipeE e vs) → acc.length + xs.length < sizeLine →
    ∃ ys e', lcLoop step xs acc e = .ok (acc ++ ys) e' ∧ ys.length = xs.length ∧ (∀ y ∈ ys, P y) ∧ I (wipeE e' vs)
  | [], acc, e, _, he, _ => ⟨[], e, by simp [lcLoop], rfl, by simp, he⟩
  | x :: xs, acc, e, h, he, hz => by
    obtain ⟨y, e1, h1, h2, hy⟩ := h x (by simp) e he
    simp only [List.length_cons] at hz
    obtain ⟨ys, e2, h3, h4, h5, h6⟩ := lcLoop_inv (xs := xs) (acc := acc ++ [y]) (fun u hu => h u (by simp [hu])) h2 (by simp; omega)
    refine ⟨y :: ys, e2, ?_, by simp [h4], fun u hu => ?_, h6⟩
    · simp only [lcLoop, h1, s_bind_ok]
      rw [if_pos (by omega), h3]
      simp
    · rcases List.mem_cons.mp hu with rfl | hu
      · exact hy
      · exact h5 u hu
theorem lc_inv {C : Nat → List Iv → Res} {G : Nat → T} {D : Nat → Nat → List T} {src : Src} {tg : Tgt} {cond : IBO} {elt : IE} {own : List (Str × Nat)} {env e1 : Env} {xs : List T} {lk : Option Nat} (I : Env → Prop) (P : T → Prop) (hs : evSrc C G D src env = .ok (xs, lk) e1) (hw : I (wipeE (lockE e1 lk) (own.map (·.2))))
    (step : ∀ x ∈ xs, ∀ w, I w → ∃ e2 y e', bindT (fun _ => false) tg x w = some e2 ∧ lcOne C G D cond elt e2 = .ok (some y) e' ∧ I (wipeE e' (own.map (·.2))) ∧ P y) (hz : xs.length < sizeLine) :
    ∃ ys w, ev C G D (.lc src tg cond elt own) env = .ok (.new (.lst ys)) (unlockE w lk) ∧ ys.length = xs.length ∧ (∀ y ∈ ys, P y) ∧ I w := by
  obtain ⟨ys, e', h1, h2, h3, h4⟩ := lcLoop_inv (step := fun t e => match bindT (fun _ => false) tg t (wipeE e (own.map (·.2))) with
        | none => .stuck
        | some e2 => noexc ((evC C G D cond e2).bind fun k e3 => if k then (ev C G D elt e3).bind fun r e4 => ofO ((esc e4 r).map some) e4 else .ok none e3)) (vs := own.map (·.2)) (I := I) (P := P) (xs := xs) (acc := []) (e := lockE e1 lk) (fun t ht e he => by
      obtain ⟨e2, y, e', q1, q2, q3, q4⟩ := step t ht _ he
      refine ⟨y, e', ?_, q3, q4⟩
      simp only [q1]
      unfold lcOne at q2
      rw [q2]
      rfl) hw (by simpa using hz)
  refine ⟨ys, _, ?_, h2, h3, h4⟩
  show (evSrc C G D src env).bind _ = _
  rw [hs, s_bind_ok]
  refine Eq.trans (congrArg (fun o : Out (List T) => o.bind fun acc e5 => Out.ok (R.new (.lst acc)) (unlockE (wipeE e5 (own.map (·.2))) lk)) h1) ?_
  simp only [s_bind_ok, List.nil_append]
theorem choose_map {α : Type} {f : α → T} {R : α → Prop} : ∀ {ys : List T}, (∀ y ∈ ys, ∃ q, y = f q ∧ R q) → ∃ qs : List α, ys = qs.map f ∧ ∀ q ∈ qs, R q
  | [], _ => ⟨[], rfl, by simp⟩
  | y :: ys, h => by
    obtain ⟨q, rfl, hq⟩ := h y (by simp)
    obtain ⟨qs, rfl, hqs⟩ := choose_map fun u hu => h u (List.mem_cons_of_mem _ hu)
    exact ⟨q :: qs, rfl, fun u hu => by
      rcases List.mem_cons.mp hu with rfl | hu
      · exact hq
      · exact hqs u hu⟩
variable (k L : Nat)
/-! # the edges -/
def VOk (v : Int × Int) : Prop := 1 ≤ v.2 ∧ v.1.natAbs < 2 ^ 1900 ∧ v.2.natAbs < 2 ^ 1900
def pT (v : Int × Int) : T := .tup [.int v.1, .int v.2]
theorem digits_small {n : Nat} (h : n < 2 ^ 1900) : (Nat.toDigits 10 n).length ≤ 100000 := by
  have h2 : (2 : Nat) ^ 1900 ≤ 10 ^ 1900 := Nat.pow_le_pow_left (by decide) _
  have := (digits_le (n := n) (f := 1900) (by decide)).mpr (Nat.lt_of_lt_of_le h h2)
  omega
theorem edge_one (v : Int × Int) (h : VOk v) : ∃ m : Nat, callF Pr G0 D0 L (k + 1) 88 [.val (pT v)] = .ok (.val (.int m)) [.val (pT v)] ∧
    ∀ f : Nat, f ≤ 100000 → callF Pr G0 D0 L (k + 1) 80 [.val (pT v), .val (.int f)] = .ok (.val (.bl (decide (f < m)))) [.val (pT v), .val (.int f)] := by
  obtain ⟨a, b⟩ := v
  obtain ⟨h1, h2, h3⟩ := h
  have hb : b = (b.natAbs : Int) := by simp only at h1; omega
  refine ⟨_, figures_core k L a b a.natAbs b.natAbs (abs_eq a) hb ?_ ?_ (digits_small h2) (digits_small h3), fun f hf => ?_⟩
  · exact Nat.lt_of_lt_of_le (log_lt h2 (by decide)) (by decide)
  · exact Nat.lt_of_lt_of_le (log_lt h3 (by decide)) (by decide)
  · rw [← moreF_digits (by simp only at h1; omega)]
    exact exceeds_core k L a b a.natAbs b.natAbs f (abs_eq a) hb hf
theorem inner (j : Jar) (a4 a5 a7 a8 : Option Iv) (p m : Nat) (e : Int) (hp : 1 ≤ p) (hp2 : p ≤ 1000) (hm : m ≤ 1000) (V : T) (d : Nat)
    (h1 : callF Pr G0 D0 L (k + 1) 88 [.val V] = .ok (.val (.int d)) [.val V])
    (h2 : ∀ f : Nat, f ≤ 100000 → callF Pr G0 D0 L (k + 1) 80 [.val V, .val (.int f)] = .ok (.val (.bl (decide (f < d)))) [.val V, .val (.int f)]) (fx : Nat → Bool) (g7 : fx 7 = false) (g8 : fx 8 = false) :
    ∃ b7 b8 : Option Iv, xc (callF Pr G0 D0 L (k + 1)) G0 D0 fx L f_law_edges_2 [some (.own (jarO j)), some (.val (.int p)), some (.val (.int m)), some (.val (.int e)), a4, a5, some (.val V), a7, a8] =
      .ok .nxt [some (.own (jarO j)), some (.val (.int p)), some (.val (.int m)), some (.val (.int e)), a4, a5, some (.val V), b7, b8] := by
  obtain ⟨e', hl, b7, b8, he⟩ := forL_st (fx := fx) (tg := .name 7) (body := xcs (callF Pr G0 D0 L (k + 1)) G0 D0 fx L s_law_edges_2) (f := fun t : Nat => T.int (t : Int)) (xs := [p - 1, p, p + 1, m])
    (fun (s : Unit) e' => ∃ b7 b8 : Option Iv, e' = [some (.own (jarO j)), some (.val (.int p)), some (.val (.int m)), some (.val (.int e)), a4, a5, some (.val V), b7, b8]) (fun s _ => s)
    (s := ()) (e := [some (.own (jarO j)), some (.val (.int p)), some (.val (.int m)), some (.val (.int e)), a4, a5, some (.val V), a7, a8]) (fun t ht s e' ⟨b7, b8, he⟩ => by
      subst he
      have h3 := h2 t (by simp at ht; omega)
      have hd : decide ((t : Int) < d) = decide (t < d) := decide_eq_decide.mpr Int.ofNat_lt
      by_cases hlt : t < d
      · rw [decide_eq_true hlt] at h3 hd
        have hd := of_decide_eq_true hd
        exact ⟨_, _, by simp [g7]; rfl, by simp [s_law_edges_2, h1, h3, hlt, hd, g8, eqR_bl], some (.val (.int t)), some (.val (.bl true)), rfl⟩
      · rw [decide_eq_false hlt] at h3 hd
        have hd := of_decide_eq_false hd
        exact ⟨_, _, by simp [g7]; rfl, by simp [s_law_edges_2, h1, h3, hlt, hd, g8, eqR_bl], some (.val (.int t)), some (.val (.bl false)), rfl⟩) ⟨a7, a8, rfl⟩
  subst he
  have hs : ([p - 1, p, p + 1, m].map fun t : Nat => T.int (t : Int)) = [.int ((p : Int) - 1), .int p, .int ((p : Int) + 1), .int m] := by
    have : ((p - 1 : Nat) : Int) = (p : Int) - 1 := by omega
    simp [this]
  rw [hs] at hl
  exact ⟨b7, b8, for_ok (L := L) (lk := none) (e1 := [some (.own (jarO j)), some (.val (.int p)), some (.val (.int m)), some (.val (.int e)), a4, a5, some (.val V), a7, a8]) (by simp) hl⟩
def vals1 (e : Int) : List (Int × Int) := [(e - 1, 1), (e, 1), (1 - e, 1), (-e, 1), (e + 1, 1), (1, e - 1), (1, e)]
def vals2 (e : Int) : List (Int × Int) := [(-1, e + 1), (e - 1, e), (e, e - 1), (-e, e + 1), (0, 1)]
theorem vals_ok {e : Int} (h1 : 10 ≤ e) (h2 : e.natAbs < 2 ^ 1800) : ∀ v ∈ vals1 e ++ vals2 e, VOk v := by
  intro v hv
  have h3 : (2 : Nat) ^ 1800 + 1 ≤ 2 ^ 1900 := by decide
  have h4 : (11 : Nat) ≤ 2 ^ 1900 := by decide
  unfold VOk
  generalize (2 : Nat) ^ 1900 = B at *
  generalize (2 : Nat) ^ 1800 = A at *
  simp only [vals1, vals2, List.cons_append, List.nil_append, List.mem_cons, List.not_mem_nil, or_false] at hv
  rcases hv with rfl | rfl | rfl | rfl | rfl | rfl | rfl | rfl | rfl | rfl | rfl | rfl <;> refine ⟨?_, ?_, ?_⟩ <;> simp only <;> omega
theorem outer (j : Jar) (a4 : Option Iv) (p m : Nat) (e : Int) (vs : List (Int × Int)) (hp : 1 ≤ p) (hp2 : p ≤ 1000) (hm : m ≤ 1000) (A5 : Option Iv) (hv : ∀ v ∈ vs, VOk v) (fx : Nat → Bool) (g6 : fx 6 = false) (g7 : fx 7 = false) (g8 : fx 8 = false) :
    ∃ b6 b7 b8 : Option Iv, forL fx (.name 6) (xcs (callF Pr G0 D0 L (k + 1)) G0 D0 fx L s_law_edges_3) (vs.map pT) [some (.own (jarO j)), some (.val (.int p)), some (.val (.int m)), some (.val (.int e)), a4, A5, none, none, none] =
      .ok .nxt [some (.own (jarO j)), some (.val (.int p)), some (.val (.int m)), some (.val (.int e)), a4, A5, b6, b7, b8] := by
  obtain ⟨e', hl, b6, b7, b8, he⟩ := forL_st (fx := fx) (tg := .name 6) (body := xcs (callF Pr G0 D0 L (k + 1)) G0 D0 fx L s_law_edges_3) (f := pT) (xs := vs)
    (fun (s : Unit) e' => ∃ b6 b7 b8 : Option Iv, e' = [some (.own (jarO j)), some (.val (.int p)), some (.val (.int m)), some (.val (.int e)), a4, A5, b6, b7, b8]) (fun s _ => s)
    (s := ()) (e := [some (.own (jarO j)), some (.val (.int p)), some (.val (.int m)), some (.val (.int e)), a4, A5, none, none, none]) (fun v hx s e' ⟨b6, b7, b8, he⟩ => by
      subst he
      obtain ⟨d, h1, h2⟩ := edge_one k L v (hv v hx)
      obtain ⟨c7, c8, hi⟩ := inner k L j a4 A5 b7 b8 p m e hp hp2 hm (pT v) d h1 h2 fx g7 g8
      generalize pT v = V at *
      exact ⟨_, _, by simp [g6]; rfl, by simp [s_law_edges_3, hi], some (.val V), c7, c8, rfl⟩) ⟨none, none, none, rfl⟩
  subst he
  exact ⟨b6, b7, b8, hl⟩
theorem pick_power (j : Jar) (v w : Int) (hv : 0 ≤ v ∧ v < 220) (hw : 0 ≤ w ∧ w < 12) : ∃ (p : Nat) (j' : Jar), 1 ≤ p ∧ p ≤ 220 ∧ callF Pr G0 D0 L (k + 3) 17 [.own (jarO j), .own (.lst [.int 6, .int 200, .int (1 + v), .int (1 + w)])] = .ok (.val (.int p)) [.own (jarO j'), .own (.lst [.int 6, .int 200, .int (1 + v), .int (1 + w)])] := by
  have h := pick_spec k L j _ [.int 6, .int 200, .int (1 + v), .int (1 + w)] (.inl rfl) (by simp) (by simp)
  have hm := pickV_mem j (xs := [.int 6, .int 200, .int (1 + v), .int (1 + w)]) (by simp)
  generalize pickV j [.int 6, .int 200, .int (1 + v), .int (1 + w)] = u at h hm
  simp only [List.mem_cons, List.not_mem_nil, or_false] at hm
  rcases hm with rfl | rfl | rfl | rfl
  · exact ⟨6, _, by omega, by omega, h⟩
  · exact ⟨200, _, by omega, by omega, h⟩
  · obtain ⟨n, hn⟩ : ∃ n : Nat, 1 + v = n := ⟨(1 + v).toNat, by omega⟩
    rw [hn] at h ⊢
    exact ⟨n, _, by omega, by omega, h⟩
  · obtain ⟨n, hn⟩ : ∃ n : Nat, 1 + w = n := ⟨(1 + w).toNat, by omega⟩
    rw [hn] at h ⊢
    exact ⟨n, _, by omega, by omega, h⟩
theorem edges_spec (j : Jar) : ∃ j', callF Pr G0 D0 L (k + 6) 89 [.own (jarO j)] = .ok (.val (.bl true)) [.own (jarO j')] := by
  rw [callF_succ (f := ⟨1, 9, b_law_edges⟩) rfl rfl]
  generalize hfx : fxOf [.own (jarO j)] = fx
  have g : fx 1 = false ∧ fx 2 = false ∧ fx 3 = false ∧ fx 4 = false ∧ fx 5 = false ∧ fx 6 = false ∧ fx 7 = false ∧ fx 8 = false := by subst hfx; exact ⟨rfl, rfl, rfl, rfl, rfl, rfl, rfl, rfl⟩
  obtain ⟨g1, g2, g3, g4, g5, g6, g7, g8⟩ := g
  have d1 := draw_n (k + 3) L j 220 (by decide)
  have v1 := drawV_nonneg j (m := 220) (by decide)
  have v2 := drawV_lt j (m := 220) (by decide)
  generalize drawV j 220 = v at d1 v1 v2
  generalize drawJ j 220 = j1 at d1
  have d2 := draw_n (k + 3) L j1 12 (by decide)
  have w1 := drawV_nonneg j1 (m := 12) (by decide)
  have w2 := drawV_lt j1 (m := 12) (by decide)
  generalize drawV j1 12 = w at d2 w1 w2
  generalize drawJ j1 12 = j2 at d2
  obtain ⟨p, j3, hp1, hp2, hp⟩ := pick_power (k + 2) L j2 v w ⟨v1, v2⟩ ⟨w1, w2⟩
  have d3 := draw_n (k + 3) L j3 241 (by decide)
  have m1 := drawV_nonneg j3 (m := 241) (by decide)
  have m2 := drawV_lt j3 (m := 241) (by decide)
  generalize drawV j3 241 = mi at d3 m1 m2
  generalize drawJ j3 241 = j4 at d3
  obtain ⟨m, rfl⟩ : ∃ n : Nat, mi = n := ⟨mi.toNat, by omega⟩
  -- the power
  obtain ⟨e', hl1, c, he1⟩ := forL_st (fx := fx) (tg := .name 4) (body := xcs (callF Pr G0 D0 L (k + 5)) G0 D0 fx L s_law_edges_1) (f := fun (t : Nat) => T.int (0 + (t : Int))) (xs := List.range p)
    (fun (s : Int) e => ∃ c : Option Iv, e = [some (.own (jarO j4)), some (.val (.int p)), some (.val (.int m)), some (.val (.int s)), c, none, none, none, none]) (fun s _ => s * 10)
    (s := 1) (e := [some (.own (jarO j4)), some (.val (.int p)), some (.val (.int m)), some (.val (.int 1)), none, none, none, none, none]) (fun t ht s e ⟨c, he⟩ => by
      subst he
      exact ⟨_, _, by simp [g4]; rfl, by simp [s_law_edges_1, g3, mulOk_r (i := s) (j := 10) (by omega)], some (.val (.int t)), rfl⟩) ⟨_, rfl⟩
  rw [fold_mul, Int.one_mul] at he1
  have f1 : xc (callF Pr G0 D0 L (k + 5)) G0 D0 fx L f_law_edges_1 [some (.own (jarO j4)), some (.val (.int p)), some (.val (.int m)), some (.val (.int 1)), none, none, none, none, none] = _ :=
    for_ok (L := L) (src_rng1 (z := p) (by simp) (by omega)) hl1
  have hE1 : (10 : Int) ≤ 10 ^ p := by
    have : (10 : Nat) ^ 1 ≤ 10 ^ p := Nat.pow_le_pow_right (by decide) hp1
    have h2 : ((10 ^ p : Nat) : Int) = (10 : Int) ^ p := by simp
    omega
  have hE2 : ((10 : Int) ^ p).natAbs < 2 ^ 1800 := by
    have e1 : ((10 : Int) ^ p).natAbs = 10 ^ p := by rw [Int.natAbs_pow]; rfl
    rw [e1]
    have h1 : (10 : Nat) ^ p < 16 ^ 221 := Nat.lt_of_le_of_lt (Nat.pow_le_pow_right (by decide) hp2) (by decide)
    exact Nat.lt_of_lt_of_le h1 (by decide)
  have hvs := vals_ok hE1 hE2
  clear hE1 hE2
  subst he1
  simp only [unlockE] at f1
  generalize (10 : Int) ^ p = E at *
  generalize hW : vals1 E ++ vals2 E = W at hvs
  obtain ⟨q, j5, hq, ha⟩ := any_spec k L j4
  have hqd := q.den_pos
  have hv3 : ∀ v ∈ W ++ [(q.num, (q.den : Int))], VOk v := by
    intro v hv
    rcases List.mem_append.mp hv with hv | hv
    · exact hvs v hv
    · have e1 := List.mem_singleton.mp hv
      subst e1
      have hq2 := hq.mono (show 200 ≤ 1900 by decide)
      exact ⟨by simp only; omega, hq2.1, by simpa using hq2.2⟩
  have hout := outer (k + 4) L j5 c p m E (W ++ [(q.num, (q.den : Int))]) hp1 (by omega) (by omega) (some (.own (.lst (W.map pT)))) hv3 fx g6 g7 g8
  clear hvs hv3 hq hl1
  obtain ⟨b6, b7, b8, hout⟩ := hout
  have hrt : rt q = pT (q.num, (q.den : Int)) := rfl
  rw [hrt] at ha
  have hs3 : evSrc (callF Pr G0 D0 L (k + 5)) G0 D0 (Src.seq (IE.bin Operator.Add (IE.var 5) (IE.lst (IEs.cons (IE.call 83 (IEs.cons (IE.var 0) IEs.nil)) IEs.nil)))) [some (.own (jarO j4)), some (.val (.int p)), some (.val (.int m)), some (.val (.int E)), c, some (.own (.lst (W.map pT))), none, none, none] =
      .ok ((W ++ [(q.num, (q.den : Int))]).map pT, none) [some (.own (jarO j5)), some (.val (.int p)), some (.val (.int m)), some (.val (.int E)), c, some (.own (.lst (W.map pT))), none, none, none] := by
    rw [List.map_append]
    have hlen : (W.map pT).length = 12 := by rw [← hW]; rfl
    generalize W.map pT = V at *
    simp [ha, hlen]
  have f3 : xc (callF Pr G0 D0 L (k + 5)) G0 D0 fx L f_law_edges_3 [some (.own (jarO j4)), some (.val (.int p)), some (.val (.int m)), some (.val (.int E)), c, some (.own (.lst (W.map pT))), none, none, none] = _ := for_ok (L := L) hs3 hout
  simp only [unlockE] at f3
  clear hs3 hout
  have hV : W.map pT = [.tup [.int (E - 1), .int 1], .tup [.int E, .int 1], .tup [.int (1 - E), .int 1], .tup [.int (-E), .int 1], .tup [.int (E + 1), .int 1], .tup [.int 1, .int (E - 1)], .tup [.int 1, .int E], .tup [.int (-1), .int (E + 1)], .tup [.int (E - 1), .int E], .tup [.int E, .int (E - 1)], .tup [.int (-E), .int (E + 1)], .tup [.int 0, .int 1]] := by rw [← hW]; rfl
  rw [hV] at f3
  have hj : ∀ z, jarO z = .lst [.int z.a, .int z.b, .int z.c] := fun _ => rfl
  refine ⟨j5, ?_⟩
  simp [b_law_edges, d1, d2, hp, d3, f1, f3, g1, g2, g3, g5, hfx]
end G
namespace G
open PySem PySem.Spec PyProof.Rows L2

theorem eqR_str1 (a : Str) : eqR (.str a) (.str a) = some true := by
  have e : eqR (.str a) (.str a) = some (decide (V.str a = V.str a)) := rfl
  rw [e]; simp
section
variable (k L : Nat)
theorem row_lc (j : Jar) (a0 a1 a2 a3 a4 a6 a7 : Option Iv) : ∃ (qs : List Rat) (jr : Jar), qs.length ≤ 8 ∧ (∀ q ∈ qs, Rsz q 200) ∧ ev (callF Pr G0 D0 L (k + 5)) G0 D0 e_law_91_1 [a0, a1, a2, a3, a4, some (.own (jarO j)), a6, a7, none, none, none] = .ok (.new (.lst (qs.map rt))) [a0, a1, a2, a3, a4, some (.own (jarO jr)), a6, a7, none, none, none] := by
  have d := draw_n (k + 3) L j 8 (by decide)
  have d1 := drawV_nonneg j (m := 8) (by decide)
  have d2 := drawV_lt j (m := 8) (by decide)
  generalize drawV j 8 = v at d d1 d2
  generalize drawJ j 8 = j1 at d
  obtain ⟨n, rfl⟩ : ∃ n : Nat, v = n := ⟨v.toNat, by omega⟩
  have hs : evSrc (callF Pr G0 D0 L (k + 5)) G0 D0 (Src.rng1 (IE.bin Operator.Add (IE.int 1) (IE.call 15 (IEs.cons (IE.var 5) (IEs.cons (IE.int 8) IEs.nil))))) [a0, a1, a2, a3, a4, some (.own (jarO j)), a6, a7, none, none, none] =
      .ok ((List.range (1 + n)).map (fun k => T.int (0 + (k : Nat))), none) [a0, a1, a2, a3, a4, some (.own (jarO j1)), a6, a7, none, none, none] := src_rng1 (by simp [d]) (by omega)
  obtain ⟨ys, w, h1, h2, h3, jr, hw⟩ := lc_inv (own := [("step", 10)]) (tg := .name 10) (cond := .none) (elt := IE.call 83 (IEs.cons (IE.var 5) IEs.nil)) (fun w => ∃ jr : Jar, w = [a0, a1, a2, a3, a4, some (.own (jarO jr)), a6, a7, none, none, none]) (fun y => ∃ q, y = rt q ∧ Rsz q 200) hs ⟨j1, by simp⟩ (fun x hx w ⟨jr, hw⟩ => by
    subst hw
    obtain ⟨q, j', hq, hc⟩ := any_spec k L jr
    exact ⟨_, rt q, _, by simp [bindT]; rfl, by simp [hc]; rfl, ⟨j', by simp⟩, q, rfl, hq⟩) (by simp; exact lt_size (by omega))
  subst hw
  obtain ⟨qs, rfl, hq⟩ := choose_map h3
  refine ⟨qs, jr, ?_, hq, h1⟩
  simp at h2
  omega
theorem pick_factor (j : Jar) (v : Int) (hv : 0 ≤ v ∧ v < 1000000) : ∃ (f : Int) (j' : Jar), f.natAbs ≤ 1000000 ∧ callF Pr G0 D0 L (k + 3) 17 [.own (jarO j), .own (.lst [.int 2, .int 3, .int 10, .int (-1), .int (-7), .int (1 + v)])] = .ok (.val (.int f)) [.own (jarO j'), .own (.lst [.int 2, .int 3, .int 10, .int (-1), .int (-7), .int (1 + v)])] := by
  have h := pick_spec k L j _ [.int 2, .int 3, .int 10, .int (-1), .int (-7), .int (1 + v)] (.inl rfl) (by simp) (by simp)
  have hm := pickV_mem j (xs := [.int 2, .int 3, .int 10, .int (-1), .int (-7), .int (1 + v)]) (by simp)
  generalize pickV j [.int 2, .int 3, .int 10, .int (-1), .int (-7), .int (1 + v)] = u at h hm
  simp only [List.mem_cons, List.not_mem_nil, or_false] at hm
  rcases hm with rfl | rfl | rfl | rfl | rfl | rfl <;> exact ⟨_, _, by omega, h⟩
theorem fz_small {f z : Int} (hf : f.natAbs ≤ 1000000) (hz : z.natAbs < 2 ^ 200) : (f * z).natAbs < 2 ^ 1000 := by
  have h1 : f.natAbs < 2 ^ 20 := by omega
  have := natAbs_lt_mul h1 hz
  exact Nat.lt_of_lt_of_le this (Nat.pow_le_pow_right (by decide) (by decide))
end
theorem plain_law (ns : List Int) (h : ns.length ≤ 63) : ∃ L outs, callF Pr G0 D0 L 30 91 [.val (.rlst (ns.map T.int))] = .ok (.val (.bl true)) outs := by
  refine ⟨0, [.val (.rlst (ns.map T.int))], ?_⟩
  rw [callF_succ (f := ⟨1, 11, b_law_91⟩) rfl rfl]
  obtain ⟨j0, hj0⟩ := jar_spec 28 0 ns 0 h (by decide)
  obtain ⟨j1, hj1⟩ := jar_spec 28 0 ns 1 h (by decide)
  obtain ⟨j2, hj2⟩ := jar_spec 28 0 ns 2 h (by decide)
  generalize hfx : fxOf [.val (.rlst (ns.map T.int))] = fx
  have fxs : fx 1 = false ∧ fx 2 = false ∧ fx 3 = false ∧ fx 4 = false ∧ fx 5 = false ∧ fx 6 = false ∧ fx 7 = false ∧ fx 8 = false ∧ fx 9 = false := by subst hfx; exact ⟨rfl, rfl, rfl, rfl, rfl, rfl, rfl, rfl, rfl⟩
  obtain ⟨f1, f2, f3, f4, f5, f6, f7, f8, f9⟩ := fxs
  generalize hsc : (T.rlst (ns.map T.int)) = sc at *
  -- the first jar
  have d1 := draw_n 27 0 j0 1000000 (by decide)
  have v1 := drawV_nonneg j0 (m := 1000000) (by decide)
  have v2 := drawV_lt j0 (m := 1000000) (by decide)
  generalize drawV j0 1000000 = v at d1 v1 v2
  generalize drawJ j0 1000000 = a1 at d1
  obtain ⟨f, a2, hf, hp⟩ := pick_factor 26 0 a1 v ⟨v1, v2⟩
  obtain ⟨z, a3, hz, hn⟩ := number_spec 25 0 a2
  have d2 := draw_n 27 0 a3 8 (by decide)
  generalize drawV a3 8 = s at d2
  generalize drawJ a3 8 = a4 at d2
  obtain ⟨z2, a5, hz2, hn2⟩ := number_spec 25 0 a4
  have t1 := fz_small hf hz
  have t2 := fz_small hf hz2
  have t0 : (0 : Int).natAbs < 2 ^ 1000 := Nat.two_pow_pos 1000
  have m1 : mulOk f z = true := mulOk_l (by omega)
  have m2 : mulOk f z2 = true := mulOk_l (by omega)
  have k1 := made_spec 26 0 (f * z) 0 t1 t0
  have k2 := made_spec 26 0 (f * z) (f * z2) t1 t2
  have k3 := made_spec 26 0 0 (f * z2) t0 t2
  have k4 := made_spec 26 0 0 0 t0 t0
  clear t1 t2 t0 hz hz2
  generalize htp : f * z = top at *
  generalize hlw : f * z2 = low at *
  -- the second
  obtain ⟨q, b1, hq, hc1⟩ := any_spec 24 0 j1
  obtain ⟨r, b2, hr, hc2⟩ := second_spec 23 0 b1 q hq
  have hq' := hq.mono (show 200 ≤ 230 by decide)
  have r1 := reckoned_spec 23 0 q r hq' hr
  have r2 := reckoned_spec 23 0 r q hr hq'
  have r3 := reckoned_spec 23 0 q q hq' hq'
  have lg : ∀ {x : Rat}, Rsz x 230 → x.num.natAbs.log2 < 1920 ∧ ((x.den : Int)).natAbs.log2 < 1920 := fun {x} hx => by
    have q1 := log_lt hx.1 (by decide)
    have q2 := log_lt hx.2 (by decide)
    rw [Int.natAbs_natCast]
    omega
  have x1 := text_spec 28 0 q.num q.den (lg hq').1 (lg hq').2
  have x2 := law_text_spec 28 0 q.num q.den (lg hq').1 (lg hq').2
  have x3 := text_spec 28 0 r.num r.den (lg hr).1 (lg hr).2
  have x4 := law_text_spec 28 0 r.num r.den (lg hr).1 (lg hr).2
  clear lg
  have lc : ∀ (a0 a1 a2 a3 a4 a6 a7 : Option Iv), _ := fun a0 a1 a2 a3 a4 a6 a7 => row_lc 24 0 b2 a0 a1 a2 a3 a4 a6 a7
  have w2 := row_spec 23 0 [q, r, -q] (by
    intro x hx
    simp only [List.mem_cons, List.not_mem_nil, or_false] at hx
    rcases hx with rfl | rfl | rfl
    · exact hq'
    · exact hr
    · exact neg_sz hq') (by simp)
  -- the third
  obtain ⟨c1, he⟩ := edges_spec 23 0 j2
  have d3 := draw_n 27 0 c1 9 (by decide)
  have u1 := drawV_nonneg c1 (m := 9) (by decide)
  have u2 := drawV_lt c1 (m := 9) (by decide)
  generalize drawV c1 9 = u at d3 u1 u2
  generalize drawJ c1 9 = c2 at d3
  have g1 := kinds_spec 26 0 q hq' (2 + u) (by omega) (by omega)
  have g2 := kinds_spec 26 0 r hr 2 (by omega) (by omega)
  have en : rt (-q) = .tup [.int (-q.num), .int (q.den : Int)] := by unfold rt; rw [Rat.neg_num, Rat.neg_den]
  have eq : rt q = .tup [.int q.num, .int (q.den : Int)] := rfl
  have er : rt r = .tup [.int r.num, .int (r.den : Int)] := rfl
  simp only [List.map_cons, List.map_nil] at w2
  rw [en] at w2
  rw [eq] at hc1 hc2 r1 r2 r3 w2 g1
  rw [er] at hc2 r1 r2 w2 g2
  generalize q.num = qa at *
  generalize (q.den : Int) = qb at *
  generalize r.num = ra at *
  generalize (r.den : Int) = rb at *
  clear hq hr hq' en eq er
  by_cases hs : s = 0
  · obtain ⟨qs, b3, l1, l2, l3⟩ := lc (some (.val sc)) (some (.own (jarO a4))) (some (.val (.int f))) (some (.val (.int top))) (some (.val (.int 0))) (some (.val (.tup [.int qa, .int qb]))) (some (.val (.tup [.int ra, .int rb])))
    have w1 := row_spec 23 0 qs (fun x hx => (l2 x hx).mono (by decide)) (by omega)
    clear lc l2
    generalize qs.map rt = Ys at *
    simp [b_law_91, hj0, hj1, hj2, d1, hp, hn, d2, hs, m1, htp, k1, k4, hc1, hc2, r1, r2, r3, x1, x2, x3, x4, eqR_str1, l3, w1, w2, he, d3, g1, g2, f1, f2, f3, f4, f5, f6, f7, f8, f9]
  · obtain ⟨qs, b3, l1, l2, l3⟩ := lc (some (.val sc)) (some (.own (jarO a5))) (some (.val (.int f))) (some (.val (.int top))) (some (.val (.int low))) (some (.val (.tup [.int qa, .int qb]))) (some (.val (.tup [.int ra, .int rb])))
    have w1 := row_spec 23 0 qs (fun x hx => (l2 x hx).mono (by decide)) (by omega)
    clear lc l2
    generalize qs.map rt = Ys at *
    simp [b_law_91, hj0, hj1, hj2, d1, hp, hn, d2, hs, m1, m2, hn2, htp, hlw, k1, k2, k3, hc1, hc2, r1, r2, r3, x1, x2, x3, x4, eqR_str1, l3, w1, w2, he, d3, g1, g2, f1, f2, f3, f4, f5, f6, f7, f8, f9]
end G
namespace G
open PySem PySem.Spec PyProof.Rows L2
def topS (i : Nat) : Stmt := PySem.Challenge.pw_holdorslip_k19_ratios_reckon.main.body.getD i (.Pass ⟨0, 0, 0, 0⟩)
def nms : Names0 := ⟨[(("common" : Str), 28), (("ratio" : Str), 0), (("plus" : Str), 1), (("negated" : Str), 54), (("minus" : Str), 55), (("times" : Str), 29), (("over" : Str), 56), (("below" : Str), 76), (("is_whole" : Str), 77), (("is_ratio" : Str), 78), (("ratio_text" : Str), 79), (("exceeds" : Str), 80), (("_law_mix" : Str), 13), (("_law_jar" : Str), 14), (("_law_draw" : Str), 15), (("_law_between" : Str), 16), (("_law_pick" : Str), 17), (("_law_gcd" : Str), 18), (("_law_rat" : Str), 19), (("_law_add" : Str), 37), (("_law_mul" : Str), 38), (("_law_is_ratio" : Str), 63), (("_law_rat_text" : Str), 81), (("_law_number" : Str), 82), (("_law_any_ratio" : Str), 83), (("_law_second" : Str), 84), (("_law_made" : Str), 85), (("_law_reckoned" : Str), 86), (("_law_row_added" : Str), 87), (("_law_figures" : Str), 88), (("_law_edges" : Str), 89), (("_law_kinds" : Str), 90), (("law" : Str), 91)], [("ZERO", 0), ("ONE", 1)], true, none, ["table"], false⟩
theorem t_common : Tab nms Pr 28 "common" (topS 4) ["a", "b"] ["a", "b"] := ⟨⟨rfl, rfl, rfl, by decide +kernel, rfl, by decide +kernel, by decide +kernel⟩, ⟨_, rfl, rfl, rfl, by kernel_rfl⟩, fun _ _ _ _ _ _ us hl => match us, hl with | [_, _], _ => rfl⟩
theorem t_ratio : TabD nms Pr 0 "ratio" (topS 5) ["n", "d", "shared"] ["n", "d"] 1 := ⟨⟨rfl, rfl, rfl, by decide +kernel, rfl, by decide +kernel, by decide +kernel⟩, ⟨_, rfl, rfl, rfl, by kernel_rfl⟩, fun _ _ _ _ _ _ _ _ => ⟨fun us hl => match us, hl with | [_, _], _ => ⟨_, rfl, rfl⟩, fun us hl => match us, hl with | [_], _ => ⟨_, rfl, rfl⟩⟩⟩
theorem t_plus : Tab nms Pr 1 "plus" (topS 6) ["a", "b"] ["a", "b"] := ⟨⟨rfl, rfl, rfl, by decide +kernel, rfl, by decide +kernel, by decide +kernel⟩, ⟨_, rfl, rfl, rfl, by kernel_rfl⟩, fun _ _ _ _ _ _ us hl => match us, hl with | [_, _], _ => rfl⟩
theorem t_negated : Tab nms Pr 54 "negated" (topS 7) ["a"] ["a"] := ⟨⟨rfl, rfl, rfl, by decide +kernel, rfl, by decide +kernel, by decide +kernel⟩, ⟨_, rfl, rfl, rfl, by kernel_rfl⟩, fun _ _ _ _ _ _ us hl => match us, hl with | [_], _ => rfl⟩
theorem t_minus : Tab nms Pr 55 "minus" (topS 8) ["a", "b"] ["a", "b"] := ⟨⟨rfl, rfl, rfl, by decide +kernel, rfl, by decide +kernel, by decide +kernel⟩, ⟨_, rfl, rfl, rfl, by kernel_rfl⟩, fun _ _ _ _ _ _ us hl => match us, hl with | [_, _], _ => rfl⟩
theorem t_times : Tab nms Pr 29 "times" (topS 9) ["a", "b"] ["a", "b"] := ⟨⟨rfl, rfl, rfl, by decide +kernel, rfl, by decide +kernel, by decide +kernel⟩, ⟨_, rfl, rfl, rfl, by kernel_rfl⟩, fun _ _ _ _ _ _ us hl => match us, hl with | [_, _], _ => rfl⟩
theorem t_over : Tab nms Pr 56 "over" (topS 10) ["a", "b"] ["a", "b"] := ⟨⟨rfl, rfl, rfl, by decide +kernel, rfl, by decide +kernel, by decide +kernel⟩, ⟨_, rfl, rfl, rfl, by kernel_rfl⟩, fun _ _ _ _ _ _ us hl => match us, hl with | [_, _], _ => rfl⟩
theorem t_below : Tab nms Pr 76 "below" (topS 11) ["a", "b"] ["a", "b"] := ⟨⟨rfl, rfl, rfl, by decide +kernel, rfl, by decide +kernel, by decide +kernel⟩, ⟨_, rfl, rfl, rfl, by kernel_rfl⟩, fun _ _ _ _ _ _ us hl => match us, hl with | [_, _], _ => rfl⟩
theorem t_is_whole : Tab nms Pr 77 "is_whole" (topS 12) ["value"] ["value"] := ⟨⟨rfl, rfl, rfl, by decide +kernel, rfl, by decide +kernel, by decide +kernel⟩, ⟨_, rfl, rfl, rfl, by kernel_rfl⟩, fun _ _ _ _ _ _ us hl => match us, hl with | [_], _ => rfl⟩
theorem t_is_ratio : Tab nms Pr 78 "is_ratio" (topS 13) ["value"] ["value"] := ⟨⟨rfl, rfl, rfl, by decide +kernel, rfl, by decide +kernel, by decide +kernel⟩, ⟨_, rfl, rfl, rfl, by kernel_rfl⟩, fun _ _ _ _ _ _ us hl => match us, hl with | [_], _ => rfl⟩
theorem t_ratio_text : Tab nms Pr 79 "ratio_text" (topS 14) ["a"] ["a"] := ⟨⟨rfl, rfl, rfl, by decide +kernel, rfl, by decide +kernel, by decide +kernel⟩, ⟨_, rfl, rfl, rfl, by kernel_rfl⟩, fun _ _ _ _ _ _ us hl => match us, hl with | [_], _ => rfl⟩
theorem t_exceeds : Tab nms Pr 80 "exceeds" (topS 15) ["a", "figures", "bound", "most", "step"] ["a", "figures"] := ⟨⟨rfl, rfl, rfl, by decide +kernel, rfl, by decide +kernel, by decide +kernel⟩, ⟨_, rfl, rfl, rfl, by kernel_rfl⟩, fun _ _ _ _ _ _ us hl => match us, hl with | [_, _], _ => rfl⟩
theorem t_law_mix : Tab nms Pr 13 "_law_mix" (topS 17) ["number", "turn", "first", "second"] ["number", "turn"] := ⟨⟨rfl, rfl, rfl, by decide +kernel, rfl, by decide +kernel, by decide +kernel⟩, ⟨_, rfl, rfl, rfl, by kernel_rfl⟩, fun _ _ _ _ _ _ us hl => match us, hl with | [_, _], _ => rfl⟩
theorem t_law_jar : Tab nms Pr 14 "_law_jar" (topS 18) ["script", "place", "cells", "total", "cell", "great", "number"] ["script", "place"] := ⟨⟨rfl, rfl, rfl, by decide +kernel, rfl, by decide +kernel, by decide +kernel⟩, ⟨_, rfl, rfl, rfl, by kernel_rfl⟩, fun _ _ _ _ _ _ us hl => match us, hl with | [_, _], _ => rfl⟩
theorem t_law_draw : Tab nms Pr 15 "_law_draw" (topS 19) ["jar", "many", "digit"] ["jar", "many"] := ⟨⟨rfl, rfl, rfl, by decide +kernel, rfl, by decide +kernel, by decide +kernel⟩, ⟨_, rfl, rfl, rfl, by kernel_rfl⟩, fun _ _ _ _ _ _ us hl => match us, hl with | [_, _], _ => rfl⟩
theorem t_law_between : Tab nms Pr 16 "_law_between" (topS 20) ["jar", "low", "high"] ["jar", "low", "high"] := ⟨⟨rfl, rfl, rfl, by decide +kernel, rfl, by decide +kernel, by decide +kernel⟩, ⟨_, rfl, rfl, rfl, by kernel_rfl⟩, fun _ _ _ _ _ _ us hl => match us, hl with | [_, _, _], _ => rfl⟩
theorem t_law_pick : Tab nms Pr 17 "_law_pick" (topS 21) ["jar", "row"] ["jar", "row"] := ⟨⟨rfl, rfl, rfl, by decide +kernel, rfl, by decide +kernel, by decide +kernel⟩, ⟨_, rfl, rfl, rfl, by kernel_rfl⟩, fun _ _ _ _ _ _ us hl => match us, hl with | [_, _], _ => rfl⟩
theorem t_law_gcd : Tab nms Pr 18 "_law_gcd" (topS 22) ["a", "b", "step"] ["a", "b"] := ⟨⟨rfl, rfl, rfl, by decide +kernel, rfl, by decide +kernel, by decide +kernel⟩, ⟨_, rfl, rfl, rfl, by kernel_rfl⟩, fun _ _ _ _ _ _ us hl => match us, hl with | [_, _], _ => rfl⟩
theorem t_law_rat : Tab nms Pr 19 "_law_rat" (topS 23) ["n", "d", "shared"] ["n", "d"] := ⟨⟨rfl, rfl, rfl, by decide +kernel, rfl, by decide +kernel, by decide +kernel⟩, ⟨_, rfl, rfl, rfl, by kernel_rfl⟩, fun _ _ _ _ _ _ us hl => match us, hl with | [_, _], _ => rfl⟩
theorem t_law_add : Tab nms Pr 37 "_law_add" (topS 24) ["a", "b"] ["a", "b"] := ⟨⟨rfl, rfl, rfl, by decide +kernel, rfl, by decide +kernel, by decide +kernel⟩, ⟨_, rfl, rfl, rfl, by kernel_rfl⟩, fun _ _ _ _ _ _ us hl => match us, hl with | [_, _], _ => rfl⟩
theorem t_law_mul : Tab nms Pr 38 "_law_mul" (topS 25) ["a", "b"] ["a", "b"] := ⟨⟨rfl, rfl, rfl, by decide +kernel, rfl, by decide +kernel, by decide +kernel⟩, ⟨_, rfl, rfl, rfl, by kernel_rfl⟩, fun _ _ _ _ _ _ us hl => match us, hl with | [_, _], _ => rfl⟩
theorem t_law_is_ratio : Tab nms Pr 63 "_law_is_ratio" (topS 26) ["value", "part"] ["value"] := ⟨⟨rfl, rfl, rfl, by decide +kernel, rfl, by decide +kernel, by decide +kernel⟩, ⟨_, rfl, rfl, rfl, by kernel_rfl⟩, fun _ _ _ _ _ _ us hl => match us, hl with | [_], _ => rfl⟩
theorem t_law_rat_text : Tab nms Pr 81 "_law_rat_text" (topS 27) ["a"] ["a"] := ⟨⟨rfl, rfl, rfl, by decide +kernel, rfl, by decide +kernel, by decide +kernel⟩, ⟨_, rfl, rfl, rfl, by kernel_rfl⟩, fun _ _ _ _ _ _ us hl => match us, hl with | [_], _ => rfl⟩
theorem t_law_number : Tab nms Pr 82 "_law_number" (topS 28) ["jar", "way", "size", "step"] ["jar"] := ⟨⟨rfl, rfl, rfl, by decide +kernel, rfl, by decide +kernel, by decide +kernel⟩, ⟨_, rfl, rfl, rfl, by kernel_rfl⟩, fun _ _ _ _ _ _ us hl => match us, hl with | [_], _ => rfl⟩
theorem t_law_any_ratio : Tab nms Pr 83 "_law_any_ratio" (topS 29) ["jar", "top", "low"] ["jar"] := ⟨⟨rfl, rfl, rfl, by decide +kernel, rfl, by decide +kernel, by decide +kernel⟩, ⟨_, rfl, rfl, rfl, by kernel_rfl⟩, fun _ _ _ _ _ _ us hl => match us, hl with | [_], _ => rfl⟩
theorem t_law_second : Tab nms Pr 84 "_law_second" (topS 30) ["jar", "first", "way"] ["jar", "first"] := ⟨⟨rfl, rfl, rfl, by decide +kernel, rfl, by decide +kernel, by decide +kernel⟩, ⟨_, rfl, rfl, rfl, by kernel_rfl⟩, fun _ _ _ _ _ _ us hl => match us, hl with | [_, _], _ => rfl⟩
theorem t_law_made : Tab nms Pr 85 "_law_made" (topS 31) ["top", "low", "whole", "told"] ["top", "low"] := ⟨⟨rfl, rfl, rfl, by decide +kernel, rfl, by decide +kernel, by decide +kernel⟩, ⟨_, rfl, rfl, rfl, by kernel_rfl⟩, fun _ _ _ _ _ _ us hl => match us, hl with | [_, _], _ => rfl⟩
theorem t_law_reckoned : Tab nms Pr 86 "_law_reckoned" (topS 32) ["first", "second", "away", "due", "told", "place", "less", "shared"] ["first", "second"] := ⟨⟨rfl, rfl, rfl, by decide +kernel, rfl, by decide +kernel, by decide +kernel⟩, ⟨_, rfl, rfl, rfl, by kernel_rfl⟩, fun _ _ _ _ _ _ us hl => match us, hl with | [_, _], _ => rfl⟩
theorem t_law_row_added : Tab nms Pr 87 "_law_row_added" (topS 33) ["row", "total", "due", "one"] ["row"] := ⟨⟨rfl, rfl, rfl, by decide +kernel, rfl, by decide +kernel, by decide +kernel⟩, ⟨_, rfl, rfl, rfl, by kernel_rfl⟩, fun _ _ _ _ _ _ us hl => match us, hl with | [_], _ => rfl⟩
theorem t_law_figures : Tab nms Pr 88 "_law_figures" (topS 34) ["value"] ["value"] := ⟨⟨rfl, rfl, rfl, by decide +kernel, rfl, by decide +kernel, by decide +kernel⟩, ⟨_, rfl, rfl, rfl, by kernel_rfl⟩, fun _ _ _ _ _ _ us hl => match us, hl with | [_], _ => rfl⟩
theorem t_law_edges : Tab nms Pr 89 "_law_edges" (topS 35) ["jar", "power", "more", "edge", "step", "values", "value", "figures", "told"] ["jar"] := ⟨⟨rfl, rfl, rfl, by decide +kernel, rfl, by decide +kernel, by decide +kernel⟩, ⟨_, rfl, rfl, rfl, by kernel_rfl⟩, fun _ _ _ _ _ _ us hl => match us, hl with | [_], _ => rfl⟩
theorem t_law_kinds : Tab nms Pr 90 "_law_kinds" (topS 36) ["value", "factor", "top", "low", "wrong"] ["value", "factor"] := ⟨⟨rfl, rfl, rfl, by decide +kernel, rfl, by decide +kernel, by decide +kernel⟩, ⟨_, rfl, rfl, rfl, by kernel_rfl⟩, fun _ _ _ _ _ _ us hl => match us, hl with | [_, _], _ => rfl⟩
theorem t_law_91 : Tab nms Pr 91 "law" (topS 37) ["script", "jar", "factor", "top", "low", "more", "first", "second", "row", "last", "step"] ["script"] := ⟨⟨rfl, rfl, rfl, by decide +kernel, rfl, by decide +kernel, by decide +kernel⟩, ⟨_, rfl, rfl, rfl, by kernel_rfl⟩, fun _ _ _ _ _ _ us hl => match us, hl with | [_], _ => rfl⟩
theorem all_mk {w : World} {K : PySem.W.Frag} {h : Heap} {mg : Str → Option Value} {fa : Addr} (X : K.In h) (Gn : h.Ns mainGlobals mg) (hfa : mg "law" = some (.ref fa)) (r0 : ∃ f, Raw K "common" (topS 4) f) (r1 : ∃ f, RawD K "ratio" (topS 5) f 1) (r2 : ∃ f, Raw K "plus" (topS 6) f) (r3 : ∃ f, Raw K "negated" (topS 7) f) (r4 : ∃ f, Raw K "minus" (topS 8) f) (r5 : ∃ f, Raw K "times" (topS 9) f) (r6 : ∃ f, Raw K "over" (topS 10) f) (r7 : ∃ f, Raw K "below" (topS 11) f) (r8 : ∃ f, Raw K "is_whole" (topS 12) f) (r9 : ∃ f, Raw K "is_ratio" (topS 13) f) (r10 : ∃ f, Raw K "ratio_text" (topS 14) f) (r11 : ∃ f, Raw K "exceeds" (topS 15) f) (r12 : ∃ f, Raw K "_law_mix" (topS 17) f) (r13 : ∃ f, Raw K "_law_jar" (topS 18) f) (r14 : ∃ f, Raw K "_law_draw" (topS 19) f) (r15 : ∃ f, Raw K "_law_between" (topS 20) f) (r16 : ∃ f, Raw K "_law_pick" (topS 21) f) (r17 : ∃ f, Raw K "_law_gcd" (topS 22) f) (r18 : ∃ f, Raw K "_law_rat" (topS 23) f) (r19 : ∃ f, Raw K "_law_add" (topS 24) f) (r20 : ∃ f, Raw K "_law_mul" (topS 25) f) (r21 : ∃ f, Raw K "_law_is_ratio" (topS 26) f) (r22 : ∃ f, Raw K "_law_rat_text" (topS 27) f) (r23 : ∃ f, Raw K "_law_number" (topS 28) f) (r24 : ∃ f, Raw K "_law_any_ratio" (topS 29) f) (r25 : ∃ f, Raw K "_law_second" (topS 30) f) (r26 : ∃ f, Raw K "_law_made" (topS 31) f) (r27 : ∃ f, Raw K "_law_reckoned" (topS 32) f) (r28 : ∃ f, Raw K "_law_row_added" (topS 33) f) (r29 : ∃ f, Raw K "_law_figures" (topS 34) f) (r30 : ∃ f, Raw K "_law_edges" (topS 35) f) (r31 : ∃ f, Raw K "_law_kinds" (topS 36) f) (r32 : ∃ f, Raw K "law" (topS 37) f) (g0 : ∃ v u, mg "ZERO" = some u ∧ RelV v u ∧ ∀ F, Den K F v (G0 0)) (g1 : ∃ v u, mg "ONE" = some u ∧ RelV v u ∧ ∀ F, Den K F v (G0 1)) (gc : mg "gcd" = some (.builtin "math.gcd")) (z : NoneOf K bNames) :
    ∃ fd : FuncData, (∀ (s : Shared) (v : Value), BindsTo s fd ⟨[v], []⟩ [("script", v)]) ∧ ∀ b0 : Heap, K.In b0 → b0.Ns mainGlobals mg → FnG true PySem.Challenge.rw_holdorslip_k19_ratios_reckon.prog w K mg b0 30 fa fd ["script"] (spLaw Pr G0 D0 30 91 K) := by
  obtain ⟨f0, r0⟩ := r0
  obtain ⟨d0, R0, B0⟩ := r0.row (D := D0) X Gn t_common (fun n => rfl)
  obtain ⟨f1, r1⟩ := r1
  obtain ⟨d1, R1⟩ := r1.row (D := D0) X Gn t_ratio (fun n => by unfold D0; split <;> simp_all)
  obtain ⟨f2, r2⟩ := r2
  obtain ⟨d2, R2, B2⟩ := r2.row (D := D0) X Gn t_plus (fun n => rfl)
  obtain ⟨f3, r3⟩ := r3
  obtain ⟨d3, R3, B3⟩ := r3.row (D := D0) X Gn t_negated (fun n => rfl)
  obtain ⟨f4, r4⟩ := r4
  obtain ⟨d4, R4, B4⟩ := r4.row (D := D0) X Gn t_minus (fun n => rfl)
  obtain ⟨f5, r5⟩ := r5
  obtain ⟨d5, R5, B5⟩ := r5.row (D := D0) X Gn t_times (fun n => rfl)
  obtain ⟨f6, r6⟩ := r6
  obtain ⟨d6, R6, B6⟩ := r6.row (D := D0) X Gn t_over (fun n => rfl)
  obtain ⟨f7, r7⟩ := r7
  obtain ⟨d7, R7, B7⟩ := r7.row (D := D0) X Gn t_below (fun n => rfl)
  obtain ⟨f8, r8⟩ := r8
  obtain ⟨d8, R8, B8⟩ := r8.row (D := D0) X Gn t_is_whole (fun n => rfl)
  obtain ⟨f9, r9⟩ := r9
  obtain ⟨d9, R9, B9⟩ := r9.row (D := D0) X Gn t_is_ratio (fun n => rfl)
  obtain ⟨f10, r10⟩ := r10
  obtain ⟨d10, R10, B10⟩ := r10.row (D := D0) X Gn t_ratio_text (fun n => rfl)
  obtain ⟨f11, r11⟩ := r11
  obtain ⟨d11, R11, B11⟩ := r11.row (D := D0) X Gn t_exceeds (fun n => rfl)
  obtain ⟨f12, r12⟩ := r12
  obtain ⟨d12, R12, B12⟩ := r12.row (D := D0) X Gn t_law_mix (fun n => rfl)
  obtain ⟨f13, r13⟩ := r13
  obtain ⟨d13, R13, B13⟩ := r13.row (D := D0) X Gn t_law_jar (fun n => rfl)
  obtain ⟨f14, r14⟩ := r14
  obtain ⟨d14, R14, B14⟩ := r14.row (D := D0) X Gn t_law_draw (fun n => rfl)
  obtain ⟨f15, r15⟩ := r15
  obtain ⟨d15, R15, B15⟩ := r15.row (D := D0) X Gn t_law_between (fun n => rfl)
  obtain ⟨f16, r16⟩ := r16
  obtain ⟨d16, R16, B16⟩ := r16.row (D := D0) X Gn t_law_pick (fun n => rfl)
  obtain ⟨f17, r17⟩ := r17
  obtain ⟨d17, R17, B17⟩ := r17.row (D := D0) X Gn t_law_gcd (fun n => rfl)
  obtain ⟨f18, r18⟩ := r18
  obtain ⟨d18, R18, B18⟩ := r18.row (D := D0) X Gn t_law_rat (fun n => rfl)
  obtain ⟨f19, r19⟩ := r19
  obtain ⟨d19, R19, B19⟩ := r19.row (D := D0) X Gn t_law_add (fun n => rfl)
  obtain ⟨f20, r20⟩ := r20
  obtain ⟨d20, R20, B20⟩ := r20.row (D := D0) X Gn t_law_mul (fun n => rfl)
  obtain ⟨f21, r21⟩ := r21
  obtain ⟨d21, R21, B21⟩ := r21.row (D := D0) X Gn t_law_is_ratio (fun n => rfl)
  obtain ⟨f22, r22⟩ := r22
  obtain ⟨d22, R22, B22⟩ := r22.row (D := D0) X Gn t_law_rat_text (fun n => rfl)
  obtain ⟨f23, r23⟩ := r23
  obtain ⟨d23, R23, B23⟩ := r23.row (D := D0) X Gn t_law_number (fun n => rfl)
  obtain ⟨f24, r24⟩ := r24
  obtain ⟨d24, R24, B24⟩ := r24.row (D := D0) X Gn t_law_any_ratio (fun n => rfl)
  obtain ⟨f25, r25⟩ := r25
  obtain ⟨d25, R25, B25⟩ := r25.row (D := D0) X Gn t_law_second (fun n => rfl)
  obtain ⟨f26, r26⟩ := r26
  obtain ⟨d26, R26, B26⟩ := r26.row (D := D0) X Gn t_law_made (fun n => rfl)
  obtain ⟨f27, r27⟩ := r27
  obtain ⟨d27, R27, B27⟩ := r27.row (D := D0) X Gn t_law_reckoned (fun n => rfl)
  obtain ⟨f28, r28⟩ := r28
  obtain ⟨d28, R28, B28⟩ := r28.row (D := D0) X Gn t_law_row_added (fun n => rfl)
  obtain ⟨f29, r29⟩ := r29
  obtain ⟨d29, R29, B29⟩ := r29.row (D := D0) X Gn t_law_figures (fun n => rfl)
  obtain ⟨f30, r30⟩ := r30
  obtain ⟨d30, R30, B30⟩ := r30.row (D := D0) X Gn t_law_edges (fun n => rfl)
  obtain ⟨f31, r31⟩ := r31
  obtain ⟨d31, R31, B31⟩ := r31.row (D := D0) X Gn t_law_kinds (fun n => rfl)
  obtain ⟨f32, r32⟩ := r32
  obtain ⟨d32, R32, B32⟩ := r32.row (D := D0) X Gn t_law_91 (fun n => rfl)
  have fa_eq := hfa.symm.trans R32.mg
  cases fa_eq
  have Fa : Facts K mg nms Pr G0 D0 := by
    refine ⟨fun x i hx => ?_, fun x j hx => ?_, none_all X Gn z, fun _ => gc, fun x hx => by simp [nms] at hx⟩
    · have hm := lookup_mem hx
      simp only [nms, List.mem_cons, Prod.mk.injEq, List.not_mem_nil, or_false] at hm
      rcases hm with ⟨rfl, rfl⟩ | ⟨rfl, rfl⟩ | ⟨rfl, rfl⟩ | ⟨rfl, rfl⟩ | ⟨rfl, rfl⟩ | ⟨rfl, rfl⟩ | ⟨rfl, rfl⟩ | ⟨rfl, rfl⟩ | ⟨rfl, rfl⟩ | ⟨rfl, rfl⟩ | ⟨rfl, rfl⟩ | ⟨rfl, rfl⟩ | ⟨rfl, rfl⟩ | ⟨rfl, rfl⟩ | ⟨rfl, rfl⟩ | ⟨rfl, rfl⟩ | ⟨rfl, rfl⟩ | ⟨rfl, rfl⟩ | ⟨rfl, rfl⟩ | ⟨rfl, rfl⟩ | ⟨rfl, rfl⟩ | ⟨rfl, rfl⟩ | ⟨rfl, rfl⟩ | ⟨rfl, rfl⟩ | ⟨rfl, rfl⟩ | ⟨rfl, rfl⟩ | ⟨rfl, rfl⟩ | ⟨rfl, rfl⟩ | ⟨rfl, rfl⟩ | ⟨rfl, rfl⟩ | ⟨rfl, rfl⟩ | ⟨rfl, rfl⟩ | ⟨rfl, rfl⟩
      · exact ⟨_, _, _, _, _, R0⟩
      · exact ⟨_, _, _, _, _, R1⟩
      · exact ⟨_, _, _, _, _, R2⟩
      · exact ⟨_, _, _, _, _, R3⟩
      · exact ⟨_, _, _, _, _, R4⟩
      · exact ⟨_, _, _, _, _, R5⟩
      · exact ⟨_, _, _, _, _, R6⟩
      · exact ⟨_, _, _, _, _, R7⟩
      · exact ⟨_, _, _, _, _, R8⟩
      · exact ⟨_, _, _, _, _, R9⟩
      · exact ⟨_, _, _, _, _, R10⟩
      · exact ⟨_, _, _, _, _, R11⟩
      · exact ⟨_, _, _, _, _, R12⟩
      · exact ⟨_, _, _, _, _, R13⟩
      · exact ⟨_, _, _, _, _, R14⟩
      · exact ⟨_, _, _, _, _, R15⟩
      · exact ⟨_, _, _, _, _, R16⟩
      · exact ⟨_, _, _, _, _, R17⟩
      · exact ⟨_, _, _, _, _, R18⟩
      · exact ⟨_, _, _, _, _, R19⟩
      · exact ⟨_, _, _, _, _, R20⟩
      · exact ⟨_, _, _, _, _, R21⟩
      · exact ⟨_, _, _, _, _, R22⟩
      · exact ⟨_, _, _, _, _, R23⟩
      · exact ⟨_, _, _, _, _, R24⟩
      · exact ⟨_, _, _, _, _, R25⟩
      · exact ⟨_, _, _, _, _, R26⟩
      · exact ⟨_, _, _, _, _, R27⟩
      · exact ⟨_, _, _, _, _, R28⟩
      · exact ⟨_, _, _, _, _, R29⟩
      · exact ⟨_, _, _, _, _, R30⟩
      · exact ⟨_, _, _, _, _, R31⟩
      · exact ⟨_, _, _, _, _, R32⟩
    · have hm := lookup_mem hx
      simp only [nms, List.mem_cons, Prod.mk.injEq, List.not_mem_nil, or_false] at hm
      rcases hm with ⟨rfl, rfl⟩ | ⟨rfl, rfl⟩
      · exact g0
      · exact g1
  exact ⟨d32, fun s v => .of_eq (B32 [v] rfl), fun b0 _ _ => law_ok Fa R32⟩
end G
open PySem PySem.W PyProof.Rows
set_option maxHeartbeats 0 in
theorem PySem.Challenge.cw_holdorslip_k19_ratios_reckon_holds : PySem.Challenge.rw_holdorslip_k19_ratios_reckon.Holds := by
  w_on; o_law; k_head; (case hw => w_witness2)
  k_fill
  refine G.walk_g (l := PySem.Challenge.rw_holdorslip_k19_ratios_reckon) (n := 63) (k := 30) (x := "script") (sp := G.spLaw G.Pr G.G0 G.D0 30 91) rfl (by decide) rfl ⟨rfl, by decide, by decide⟩ (fun w h Y => PySem.W.kIn_of Y) ?F (fun _ _ a ns hl hO hS => G.script_ok hO hS (G.plain_law ns hl))
  case F =>
    intro w mg fa h KX Gn hmg
    refine' G.all_mk KX Gn hmg ?r0 ?r1 ?r2 ?r3 ?r4 ?r5 ?r6 ?r7 ?r8 ?r9 ?r10 ?r11 ?r12 ?r13 ?r14 ?r15 ?r16 ?r17 ?r18 ?r19 ?r20 ?r21 ?r22 ?r23 ?r24 ?r25 ?r26 ?r27 ?r28 ?r29 ?r30 ?r31 ?r32 ?g0 ?g1 ?gc ?z
    (case r0 => refine' G.raw_mk ?a ?l ?c ?k; (case a => k_is); (case l => k_is); (case c => k_is); (case k => k_is))
    (case r1 => refine' G.rawD_mk ?a ?l ?c ?k ?l2 ?e; (case a => k_is); (case l => k_is); (case c => k_is); (case k => k_is); (case l2 => k_is); (case e => rfl))
    (case r2 => refine' G.raw_mk ?a ?l ?c ?k; (case a => k_is); (case l => k_is); (case c => k_is); (case k => k_is))
    (case r3 => refine' G.raw_mk ?a ?l ?c ?k; (case a => k_is); (case l => k_is); (case c => k_is); (case k => k_is))
    (case r4 => refine' G.raw_mk ?a ?l ?c ?k; (case a => k_is); (case l => k_is); (case c => k_is); (case k => k_is))
    (case r5 => refine' G.raw_mk ?a ?l ?c ?k; (case a => k_is); (case l => k_is); (case c => k_is); (case k => k_is))
    (case r6 => refine' G.raw_mk ?a ?l ?c ?k; (case a => k_is); (case l => k_is); (case c => k_is); (case k => k_is))
    (case r7 => refine' G.raw_mk ?a ?l ?c ?k; (case a => k_is); (case l => k_is); (case c => k_is); (case k => k_is))
    (case r8 => refine' G.raw_mk ?a ?l ?c ?k; (case a => k_is); (case l => k_is); (case c => k_is); (case k => k_is))
    (case r9 => refine' G.raw_mk ?a ?l ?c ?k; (case a => k_is); (case l => k_is); (case c => k_is); (case k => k_is))
    (case r10 => refine' G.raw_mk ?a ?l ?c ?k; (case a => k_is); (case l => k_is); (case c => k_is); (case k => k_is))
    (case r11 => refine' G.raw_mk ?a ?l ?c ?k; (case a => k_is); (case l => k_is); (case c => k_is); (case k => k_is))
    (case r12 => refine' G.raw_mk ?a ?l ?c ?k; (case a => k_is); (case l => k_is); (case c => k_is); (case k => k_is))
    (case r13 => refine' G.raw_mk ?a ?l ?c ?k; (case a => k_is); (case l => k_is); (case c => k_is); (case k => k_is))
    (case r14 => refine' G.raw_mk ?a ?l ?c ?k; (case a => k_is); (case l => k_is); (case c => k_is); (case k => k_is))
    (case r15 => refine' G.raw_mk ?a ?l ?c ?k; (case a => k_is); (case l => k_is); (case c => k_is); (case k => k_is))
    (case r16 => refine' G.raw_mk ?a ?l ?c ?k; (case a => k_is); (case l => k_is); (case c => k_is); (case k => k_is))
    (case r17 => refine' G.raw_mk ?a ?l ?c ?k; (case a => k_is); (case l => k_is); (case c => k_is); (case k => k_is))
    (case r18 => refine' G.raw_mk ?a ?l ?c ?k; (case a => k_is); (case l => k_is); (case c => k_is); (case k => k_is))
    (case r19 => refine' G.raw_mk ?a ?l ?c ?k; (case a => k_is); (case l => k_is); (case c => k_is); (case k => k_is))
    (case r20 => refine' G.raw_mk ?a ?l ?c ?k; (case a => k_is); (case l => k_is); (case c => k_is); (case k => k_is))
    (case r21 => refine' G.raw_mk ?a ?l ?c ?k; (case a => k_is); (case l => k_is); (case c => k_is); (case k => k_is))
    (case r22 => refine' G.raw_mk ?a ?l ?c ?k; (case a => k_is); (case l => k_is); (case c => k_is); (case k => k_is))
    (case r23 => refine' G.raw_mk ?a ?l ?c ?k; (case a => k_is); (case l => k_is); (case c => k_is); (case k => k_is))
    (case r24 => refine' G.raw_mk ?a ?l ?c ?k; (case a => k_is); (case l => k_is); (case c => k_is); (case k => k_is))
    (case r25 => refine' G.raw_mk ?a ?l ?c ?k; (case a => k_is); (case l => k_is); (case c => k_is); (case k => k_is))
    (case r26 => refine' G.raw_mk ?a ?l ?c ?k; (case a => k_is); (case l => k_is); (case c => k_is); (case k => k_is))
    (case r27 => refine' G.raw_mk ?a ?l ?c ?k; (case a => k_is); (case l => k_is); (case c => k_is); (case k => k_is))
    (case r28 => refine' G.raw_mk ?a ?l ?c ?k; (case a => k_is); (case l => k_is); (case c => k_is); (case k => k_is))
    (case r29 => refine' G.raw_mk ?a ?l ?c ?k; (case a => k_is); (case l => k_is); (case c => k_is); (case k => k_is))
    (case r30 => refine' G.raw_mk ?a ?l ?c ?k; (case a => k_is); (case l => k_is); (case c => k_is); (case k => k_is))
    (case r31 => refine' G.raw_mk ?a ?l ?c ?k; (case a => k_is); (case l => k_is); (case c => k_is); (case k => k_is))
    (case r32 => refine' G.raw_mk ?a ?l ?c ?k; (case a => k_is); (case l => k_is); (case c => k_is); (case k => k_is))
    (case g0 => refine' G.glob_pair KX Gn ?a ?l ?c ?d; (case a => k_is); (case l => k_is); (case c => rfl); (case d => rfl))
    (case g1 => refine' G.glob_pair KX Gn ?a ?l ?c ?d; (case a => k_is); (case l => k_is); (case c => rfl); (case d => rfl))
    (case gc => refine' PySem.W.mg_of KX Gn ?a; (case a => k_is))
    (case z => refine' ⟨?_, ⟨?_, ⟨?_, ⟨?_, ⟨?_, ⟨?_, ⟨?_, ⟨?_, ⟨?_, ⟨?_, ⟨?_, ⟨?_, ⟨?_, ⟨?_, ⟨?_, ⟨?_, ⟨?_, ⟨?_, ⟨?_, ⟨?_, ⟨?_, ⟨?_, ⟨?_, trivial⟩⟩⟩⟩⟩⟩⟩⟩⟩⟩⟩⟩⟩⟩⟩⟩⟩⟩⟩⟩⟩⟩⟩ <;> k_is)
