import PyProof.Rows.All
import HandS.ForMost
import HandS.SortKw
import HandS.Wide
import HandS.TupAny
import HandS.Gcd
import HandS.Exc
import PyProof.StrOps2
import PyProof.ListStr
import HandS.Deep
import HandS.Text
import HandS.IsInst
import HandS.WideBits
import HandS.Zip
import HandS.DictComp
import PyProof.Rows.ReprR
import KE.SortKeyHeap
import HandS.More
import HandS.TryOnly
import HandS.FStr
import HandS.ExcInit
import HandS.Nested
import KE.KExcSuper
import KE.KExcIs
import HandS.ExcField
import HandS.ExcBuiltin
import HandS.ExcIs
import HandS.Words
import HandS.Ends
import HandS.Defaults
import PyProof.ReprLen
import KE.IntTextLaws
import PyProof.ReprBulk
import PySem.Challenge.RW_holdorslip_k01_words_of
set_option Elab.async false
set_option linter.all false
set_option maxRecDepth 100000
namespace G
open PySem PySem.Spec PyProof.Rows L2

/-! # data without addresses -/
inductive T where
  | non | bl (b : Bool) | int (i : Int) | str (s : Str)
  | tup (xs : List T) | lst (xs : List T) | rlst (xs : List T) | dic (kvs : List (Key × T))
  | adr (a : Addr) | obj (nm : Str) (kvs : List (Key × T))
/-- an object's fields as keys and values -/
def fldK (vs : List (Str × V)) : List (Key × V) := vs.map fun p => (.inr p.1, p.2)
/-- the class that a name of the top stands for -/
def ClsNm (K : PySem.W.Frag) (C : Addr) (nm : Str) : Prop := PySem.W.nsIn K mainGlobals nm = some (some (.ref C))
theorem ClsNm.same {K : PySem.W.Frag} {C C' : Addr} {nm : Str} (h : ClsNm K C nm) (h' : ClsNm K C' nm) : C = C' := by
  unfold ClsNm at h h'
  rw [h] at h'
  cases h'
  rfl

mutual
inductive Den (K : PySem.W.Frag) (F : Hp) : V → T → Prop
  | non : Den K F .non .non
  | bl (b : Bool) : Den K F (.bl b) (.bl b)
  | int (i : Int) : Den K F (.int i) (.int i)
  | str (s : Str) : Den K F (.str s) (.str s)
  | tup {a : Addr} {vs : List V} {ts : List T} : SqT K F a vs → DenAll K F vs ts → Den K F (.ref a) (.tup ts)
  | lst {a : Addr} {vs : List V} {ts : List T} : F a = some (.lst vs) → DenAll K F vs ts → Den K F (.ref a) (.lst ts)
  | rlst {a : Addr} {vs : List V} {ts : List T} : SqL K F a vs → DenAll K F vs ts → Den K F (.ref a) (.rlst ts)
  | dic {a : Addr} {kvs : List (Key × V)} {kts : List (Key × T)} : Rd F a (.dK kvs) → DenKV K F kvs kts → Den K F (.ref a) (.dic kts)
  | adr (a : Addr) : Den K F (.ref a) (.adr a)
  | obj {a C dx : Addr} {nm : Str} {vs : List (Str × V)} {kts : List (Key × T)} : F a = some (.ins C dx vs) → ClsNm K C nm → DenKV K F (fldK vs) kts → Den K F (.ref a) (.obj nm kts)
inductive DenAll (K : PySem.W.Frag) (F : Hp) : List V → List T → Prop
  | nil : DenAll K F [] []
  | cons {v : V} {vs : List V} {t : T} {ts : List T} : Den K F v t → DenAll K F vs ts → DenAll K F (v :: vs) (t :: ts)
inductive DenKV (K : PySem.W.Frag) (F : Hp) : List (Key × V) → List (Key × T) → Prop
  | nil : DenKV K F [] []
  | cons {k : Key} {v : V} {vs : List (Key × V)} {t : T} {ts : List (Key × T)} : Den K F v t → DenKV K F vs ts → DenKV K F ((k, v) :: vs) ((k, t) :: ts)
end

theorem same_t {K : PySem.W.Frag} {H H' : Hp} {a : Addr} {xs : List V} (e : Same H H') (h : SqT K H a xs) : SqT K H' a xs := by
  rcases h with (h | ⟨o, h⟩) | h
  · exact .inl (.inl (e _ _ h))
  · exact .inl (.inr ⟨o, e _ _ h⟩)
  · exact .inr h

theorem rd_mono {H H' : Hp} {a : Addr} {u : HO} (e : Same H H') (h : Rd H a u) : Rd H' a u := by
  rcases h with h | ⟨o, h⟩
  · exact .inl (e _ _ h)
  · exact .inr ⟨o, e _ _ h⟩
section
variable {K : PySem.W.Frag} {F F' : Hp}
mutual
theorem Den.mono (e : Same F F') : ∀ {v : V} {t : T}, Den K F v t → Den K F' v t
  | _, _, .non => .non
  | _, _, .bl b => .bl b
  | _, _, .int i => .int i
  | _, _, .str s => .str s
  | _, _, .tup h d => .tup (same_t e h) (DenAll.mono e d)
  | _, _, .lst h d => .lst (e _ _ h) (DenAll.mono e d)
  | _, _, .rlst h d => .rlst (e.seq h) (DenAll.mono e d)
  | _, _, .dic h d => .dic (rd_mono e h) (DenKV.mono e d)
  | _, _, .adr a => .adr a
  | _, _, .obj h c d => .obj (e _ _ h) c (DenKV.mono e d)
theorem DenAll.mono (e : Same F F') : ∀ {v : List V} {t : List T}, DenAll K F v t → DenAll K F' v t
  | _, _, .nil => .nil
  | _, _, .cons h d => .cons (Den.mono e h) (DenAll.mono e d)
theorem DenKV.mono (e : Same F F') : ∀ {v : List (Key × V)} {t : List (Key × T)}, DenKV K F v t → DenKV K F' v t
  | _, _, .nil => .nil
  | _, _, .cons h d => .cons (Den.mono e h) (DenKV.mono e d)
end
theorem DenAll.length : ∀ {v : List V} {t : List T}, DenAll K F v t → v.length = t.length
  | _, _, .nil => rfl
  | _, _, .cons _ d => by rw [List.length_cons, List.length_cons, DenAll.length d]
theorem DenAll.get : ∀ {v : List V} {t : List T} {i : Nat} {x : T}, DenAll K F v t → t[i]? = some x → ∃ u, v[i]? = some u ∧ Den K F u x
  | _, _, _, _, .nil, h => by simp at h
  | _, _, 0, _, .cons h d, e => by simp at e; subst e; exact ⟨_, rfl, h⟩
  | _, _, i + 1, _, .cons h d, e => by
    obtain ⟨u, h1, h2⟩ := DenAll.get (i := i) d (by simpa using e)
    exact ⟨u, by simpa using h1, h2⟩
theorem DenAll.getV : ∀ {v : List V} {t : List T} {i : Nat} {u : V}, DenAll K F v t → v[i]? = some u → ∃ x, t[i]? = some x ∧ Den K F u x
  | _, _, _, _, .nil, h => by simp at h
  | _, _, 0, _, .cons h d, e => by simp at e; subst e; exact ⟨_, rfl, h⟩
  | _, _, i + 1, _, .cons h d, e => by
    obtain ⟨u, h1, h2⟩ := DenAll.getV (i := i) d (by simpa using e)
    exact ⟨u, by simpa using h1, h2⟩
theorem DenAll.append : ∀ {v v' : List V} {t t' : List T}, DenAll K F v t → DenAll K F v' t' → DenAll K F (v ++ v') (t ++ t')
  | _, _, _, _, .nil, h => h
  | _, _, _, _, .cons h d, h' => .cons h (DenAll.append d h')
theorem DenAll.one {v : V} {t : T} (h : Den K F v t) : DenAll K F [v] [t] := .cons h .nil
theorem DenAll.take : ∀ {v : List V} {t : List T} (n : Nat), DenAll K F v t → DenAll K F (v.take n) (t.take n)
  | _, _, 0, _ => by simp; exact .nil
  | _, _, _ + 1, .nil => by simp; exact .nil
  | _, _, n + 1, .cons h d => by simp only [List.take_succ_cons]; exact .cons h (DenAll.take n d)
theorem DenAll.drop : ∀ {v : List V} {t : List T} (n : Nat), DenAll K F v t → DenAll K F (v.drop n) (t.drop n)
  | _, _, 0, d => by simpa using d
  | _, _, _ + 1, .nil => by simp; exact .nil
  | _, _, n + 1, .cons h d => by simp only [List.drop_succ_cons]; exact DenAll.drop n d
theorem DenAll.set : ∀ {v : List V} {t : List T} (n : Nat) {x : V} {y : T}, DenAll K F v t → Den K F x y → DenAll K F (v.set n x) (t.set n y)
  | _, _, _, _, _, .nil, _ => .nil
  | _, _, 0, _, _, .cons h d, e => .cons e d
  | _, _, n + 1, _, _, .cons h d, e => .cons h (DenAll.set n d e)
theorem DenAll.dropLast : ∀ {v : List V} {t : List T}, DenAll K F v t → DenAll K F v.dropLast t.dropLast := fun {v t} h => by
  rw [List.dropLast_eq_take, List.dropLast_eq_take, h.length]; exact h.take _
theorem DenAll.eraseIdx : ∀ {v : List V} {t : List T} (n : Nat), DenAll K F v t → DenAll K F (v.eraseIdx n) (t.eraseIdx n)
  | _, _, _, .nil => .nil
  | _, _, 0, .cons h d => d
  | _, _, n + 1, .cons h d => .cons h (DenAll.eraseIdx n d)
theorem DenAll.ints : ∀ {v : List V} {ns : List Int}, DenAll K F v (ns.map T.int) → v = ns.map V.int
  | _, [], h => by cases h; rfl
  | _, n :: ns, h => by
    cases h with
    | cons h d => cases h; rw [DenAll.ints d]; rfl
theorem DenAll.of_ints : ∀ (ns : List Int), DenAll K F (ns.map V.int) (ns.map T.int)
  | [] => .nil
  | n :: ns => .cons (.int n) (DenAll.of_ints ns)
theorem DenAll.strs : ∀ {v : List V} {ns : List Str}, DenAll K F v (ns.map T.str) → v = ns.map V.str
  | _, [], h => by cases h; rfl
  | _, n :: ns, h => by
    cases h with
    | cons h d => cases h; rw [DenAll.strs d]; rfl
theorem DenAll.of_strs : ∀ (ns : List Str), DenAll K F (ns.map V.str) (ns.map T.str)
  | [] => .nil
  | n :: ns => .cons (.str n) (DenAll.of_strs ns)
end

/-! # owned objects, slots, results -/
inductive Ow where
  | lst (xs : List T) | dic (kvs : List (Key × T)) | obj (nm : Str) (kvs : List (Key × T))
/-- a slot's content: a frozen value, an owned object, an owned object that must stay as it is for now -/
inductive Iv where
  | val (t : T) | own (o : Ow) | lck (o : Ow)
abbrev Env := List (Option Iv)
inductive R where
  | val (t : T) | new (o : Ow) | loan (i : Nat)

def frz : Ow → T
  | .lst xs => .lst xs
  | .dic kvs => .dic kvs
  | .obj nm kvs => .obj nm kvs

/-- an owned object, its content frozen -/
inductive OwnR (K : PySem.W.Frag) (H F : Hp) : V → Ow → List Addr → Prop
  | lst {a : Addr} {vs : List V} {ts : List T} : H a = some (.lst vs) → DenAll K F vs ts → OwnR K H F (.ref a) (.lst ts) [a]
  | dic {a : Addr} {kvs : List (Key × V)} {kts : List (Key × T)} : H a = some (.dK kvs) → DenKV K F kvs kts → OwnR K H F (.ref a) (.dic kts) [a]
  | obj {a C dx : Addr} {nm : Str} {vs : List (Str × V)} {kts : List (Key × T)} : H a = some (.ins C dx vs) → ClsNm K C nm → DenKV K F (fldK vs) kts → OwnR K H F (.ref a) (.obj nm kts) [a]
/-- an owned object that is locked: a dict is pinned -/
inductive LckR (K : PySem.W.Frag) (H F : Hp) : V → Ow → List Addr → Prop
  | lst {a : Addr} {vs : List V} {ts : List T} : H a = some (.lst vs) → DenAll K F vs ts → LckR K H F (.ref a) (.lst ts) [a]
  | dic {a : Addr} {ob : Obj} {kvs : List (Key × V)} {kts : List (Key × T)} : H a = some (.frz ob (.dK kvs)) → DenKV K F kvs kts → LckR K H F (.ref a) (.dic kts) [a]
inductive IvR (K : PySem.W.Frag) (H F : Hp) : V → Iv → List Addr → Prop
  | val {v : V} {t : T} : Den K F v t → IvR K H F v (.val t) []
  | own {v : V} {o : Ow} {l : List Addr} : OwnR K H F v o l → IvR K H F v (.own o) l
  | lck {v : V} {o : Ow} {l : List Addr} : LckR K H F v o l → IvR K H F v (.lck o) l

theorem OwnR.keep {K : PySem.W.Frag} {H F H' F' : Hp} {v : V} {o : Ow} {l : List Addr} (h : OwnR K H F v o l) (k : ∀ a ∈ l, H' a = H a) (e : Same F F') : OwnR K H' F' v o l := by
  cases h with
  | lst h d => exact .lst ((k _ (by simp)).trans h) (d.mono e)
  | dic h d => exact .dic ((k _ (by simp)).trans h) (d.mono e)
  | obj h c d => exact .obj ((k _ (by simp)).trans h) c (d.mono e)
theorem OwnR.here {K : PySem.W.Frag} {H F : Hp} {v : V} {o : Ow} {l : List Addr} (h : OwnR K H F v o l) : ∀ a ∈ l, H a ≠ none := by
  cases h with
  | lst h d => intro a ha; simp at ha; subst ha; rw [h]; simp
  | dic h d => intro a ha; simp at ha; subst ha; rw [h]; simp
  | obj h c d => intro a ha; simp at ha; subst ha; rw [h]; simp
theorem LckR.keep {K : PySem.W.Frag} {H F H' F' : Hp} {v : V} {o : Ow} {l : List Addr} (h : LckR K H F v o l) (k : ∀ a ∈ l, H' a = H a) (e : Same F F') : LckR K H' F' v o l := by
  cases h with
  | lst h d => exact .lst ((k _ (by simp)).trans h) (d.mono e)
  | dic h d => exact .dic ((k _ (by simp)).trans h) (d.mono e)
theorem LckR.here {K : PySem.W.Frag} {H F : Hp} {v : V} {o : Ow} {l : List Addr} (h : LckR K H F v o l) : ∀ a ∈ l, H a ≠ none := by
  cases h with
  | lst h d => intro a ha; simp at ha; subst ha; rw [h]; simp
  | dic h d => intro a ha; simp at ha; subst ha; rw [h]; simp
theorem IvR.keep {K : PySem.W.Frag} {H F H' F' : Hp} {v : V} {o : Iv} {l : List Addr} (h : IvR K H F v o l) (k : ∀ a ∈ l, H' a = H a) (e : Same F F') : IvR K H' F' v o l := by
  cases h with
  | val d => exact .val (d.mono e)
  | own h => exact .own (h.keep k e)
  | lck h => exact .lck (h.keep k e)
theorem IvR.here {K : PySem.W.Frag} {H F : Hp} {v : V} {o : Iv} {l : List Addr} (h : IvR K H F v o l) : ∀ a ∈ l, H a ≠ none := by
  cases h with
  | val d => intro a ha; simp at ha
  | own h => exact h.here
  | lck h => exact h.here

/-- the addresses that may change, and all that are spoken for -/
structure Fp where
  own : Addr → Prop
  all : Addr → Prop
  lk : Nat → Addr → Prop
  sub : ∀ a, own a → all a
def fpOf (env : Env) (fp : Nat → List Addr) : Fp where
  own := fun a => ∃ i o, env[i]? = some (some (.own o)) ∧ a ∈ fp i
  lk := fun i a => ∃ o, env[i]? = some (some (.lck o)) ∧ a ∈ fp i
  all := fun a => ∃ i, a ∈ fp i
  sub := fun _ ⟨i, _, _, h⟩ => ⟨i, h⟩

structure EnvR (K : PySem.W.Frag) (env : Env) (σ : L2.St) (H F : Hp) (fp : Nat → List Addr) : Prop where
  slot : ∀ i iv, env[i]? = some (some iv) → ∃ v, σ[i]? = some (some v) ∧ IvR K H F v iv (fp i)
  out : ∀ i, (∀ iv, env[i]? ≠ some (some iv)) → fp i = []
  dis : ∀ i j a, a ∈ fp i → a ∈ fp j → i = j
  free : ∀ i a, a ∈ fp i → F a = none
  sub : Same F H
  len : env.length = σ.length

/-- from one world to a later one -/
structure Stp (P : Fp) (H F : Hp) (P' : Fp) (H' F' : Hp) : Prop where
  keep : ∀ a o, H a = some o → ¬ P.own a → H' a = some o
  fz : Same F F'
  nfz : ∀ a, F' a ≠ none → F a ≠ none ∨ P.own a ∨ H a = none
  own : ∀ a, P'.own a → P.own a ∨ H a = none
  all : ∀ a, P'.all a → P.all a ∨ H a = none
  lk : ∀ i a, P'.lk i a → P.lk i a

theorem EnvR.here {K : PySem.W.Frag} {env : Env} {σ : L2.St} {H F : Hp} {fp : Nat → List Addr} (E : EnvR K env σ H F fp) : ∀ i a, a ∈ fp i → H a ≠ none := fun i a ha => by
  by_cases h : ∃ iv, env[i]? = some (some iv)
  · obtain ⟨iv, h⟩ := h
    obtain ⟨v, _, r⟩ := E.slot i iv h
    exact r.here a ha
  · have := E.out i fun iv e => h ⟨iv, e⟩
    rw [this] at ha
    simp at ha

section
variable {P P1 P2 : Fp} {H H1 H2 F F1 F2 : Hp}
theorem Stp.refl : Stp P H F P H F := ⟨fun _ _ h _ => h, fun _ _ h => h, fun _ h => .inl h, fun _ h => .inl h, fun _ h => .inl h, fun _ _ h => h⟩
theorem Stp.back (s : Stp P H F P1 H1 F1) {a : Addr} (h : H1 a = none) : P.own a ∨ H a = none := by
  by_cases ho : P.own a
  · exact .inl ho
  · cases e : H a with
    | none => exact .inr rfl
    | some o => rw [s.keep a o e ho] at h; cases h
theorem Stp.trans (s : Stp P H F P1 H1 F1) (t : Stp P1 H1 F1 P2 H2 F2) : Stp P H F P2 H2 F2 where
  keep := fun a o h hn => t.keep a o (s.keep a o h hn) fun ho => (s.own a ho).elim hn fun z => by rw [h] at z; cases z
  fz := s.fz.trans t.fz
  nfz := fun a h => by
    rcases t.nfz a h with h | h | h
    · exact s.nfz a h
    · exact .inr (s.own a h)
    · exact .inr (s.back h)
  own := fun a h => by
    rcases t.own a h with h | h
    · exact s.own a h
    · exact s.back h
  all := fun a h => by
    rcases t.all a h with h | h
    · exact s.all a h
    · exact (s.back h).imp (P.sub a) id
  lk := fun i a h => s.lk i a (t.lk i a h)
/-- what is not spoken for stays -/
theorem Stp.fresh (s : Stp P H F P1 H1 F1) {a : Addr} (h0 : H a ≠ none) (hn : ¬ P.all a) (hF : F a = none) : H1 a = H a ∧ F1 a = none ∧ ¬ P1.all a := by
  have hn' : ¬ P.own a := fun h => hn (P.sub a h)
  refine ⟨?_, ?_, fun h => (s.all a h).elim hn h0⟩
  · cases e : H a with
    | none => exact absurd e h0
    | some o => exact s.keep a o e hn'
  · cases e : F1 a with
    | none => rfl
    | some o =>
      rcases s.nfz a (by rw [e]; simp) with h | h | h
      · exact absurd hF h
      · exact absurd h hn'
      · exact absurd h h0
end

/-- a result; l: what it owns -/
inductive RR (K : PySem.W.Frag) (σ : L2.St) (H F : Hp) : R → V → List Addr → Prop
  | val {v : V} {t : T} : Den K F v t → RR K σ H F (.val t) v []
  | new {v : V} {o : Ow} {l : List Addr} : OwnR K H F v o l → RR K σ H F (.new o) v l
  | loan {v : V} {i : Nat} : σ[i]? = some (some v) → RR K σ H F (.loan i) v []
/-- what a temporary owns stands apart, and is new since H0 -/
def Tmp (H0 : Hp) (P0 : Fp) (F : Hp) (P : Fp) (l : List Addr) : Prop := ∀ a ∈ l, F a = none ∧ ¬ P.all a ∧ (P0.own a ∨ H0 a = none)
inductive RRs (K : PySem.W.Frag) (σ : L2.St) (H F : Hp) : List R → List V → List Addr → Prop
  | nil : RRs K σ H F [] [] []
  | cons {r : R} {v : V} {l : List Addr} {rs : List R} {vs : List V} {ls : List Addr} : RR K σ H F r v l → RRs K σ H F rs vs ls → (∀ a ∈ l, a ∉ ls) → RRs K σ H F (r :: rs) (v :: vs) (l ++ ls)

/-- a leaf: a value without an address -/
def lv : T → Option V
  | .non => some .non
  | .bl b => some (.bl b)
  | .int i => some (.int i)
  | .str s => some (.str s)
  | _ => none
def lvs : List T → Option (List V)
  | [] => some []
  | t :: ts => (lv t).bind fun v => (lvs ts).map (v :: ·)
def lvk : List (Str × T) → Option (List (Str × V))
  | [] => some []
  | p :: ps => (lv p.2).bind fun v => (lvk ps).map ((p.1, v) :: ·)
inductive Xv where
  | blt (n : String)
  | usr (nm : Str) (fs : List (Str × T))
def XR (K : PySem.W.Frag) : Xv → Value → Option Addr → Hp → Prop
  | .blt n, cls, d, _ => cls = .type n ∧ d = none
  | .usr nm fs, cls, d, H => ∃ C dd vs, cls = .ref C ∧ ClsNm K C nm ∧ d = some dd ∧ lvk fs = some vs ∧ H dd = some (.xd vs) ∧ ∀ p ∈ fs, PySem.W.findIn K (.ref C) p.1 = some none

inductive Out (α : Type) where
  | ok (a : α) (env : Env)
  | exc (x : Xv) (env : Env)
  | stuck
def Out.bind {α β : Type} : Out α → (α → Env → Out β) → Out β
  | .ok a env, f => f a env
  | .exc x env, _ => .exc x env
  | .stuck, _ => .stuck
/-- what an outcome asks: Q at the end, W at an exception -/
def Out.asks {α : Type} (K : PySem.W.Frag) (W : WX) (σ : L2.St) (H F : Hp) (P : Fp) (o : Out α) (Q : α → Env → Hp → Hp → (Nat → List Addr) → Prop) : Prop :=
  match o with
  | .ok a env' => ∀ H' F' fp', EnvR K env' σ H' F' fp' → Stp P H F (fpOf env' fp') H' F' → Q a env' H' F' fp'
  | .exc x env' => ∀ cls d H' F' fp', EnvR K env' σ H' F' fp' → Stp P H F (fpOf env' fp') H' F' → XR K x cls d H' → W cls d σ H'
  | .stuck => False

def tE (K : PySem.W.Frag) (W : WX) (m : Env → Out R) : TE := fun σ H Q => ∃ env F fp, EnvR K env σ H F fp ∧
  (m env).asks K W σ H F (fpOf env fp) fun r env' H' F' fp' => ∀ v l, RR K σ H' F' r v l → Tmp H (fpOf env fp) F' (fpOf env' fp') l → Q v H'
def tB (K : PySem.W.Frag) (W : WX) (m : Env → Out Bool) : TT := fun σ H Q => ∃ env F fp, EnvR K env σ H F fp ∧
  (m env).asks K W σ H F (fpOf env fp) fun b env' H' F' fp' => Q b H'
def tA (K : PySem.W.Frag) (W : WX) (m : Env → Out (List R)) : TA := fun σ H Q => ∃ env F fp, EnvR K env σ H F fp ∧
  (m env).asks K W σ H F (fpOf env fp) fun rs env' H' F' fp' => ∀ vs l, RRs K σ H' F' rs vs l → Tmp H (fpOf env fp) F' (fpOf env' fp') l → Q vs H'

section
variable {α β : Type} {K : PySem.W.Frag} {W : WX} {σ : L2.St} {H F H0 F0 : Hp} {P0 P : Fp}
theorem Out.asks_mono {o : Out α} {Q Q' : α → Env → Hp → Hp → (Nat → List Addr) → Prop}
    (s : Stp P0 H0 F0 P H F) (h : o.asks K W σ H0 F0 P0 Q) (k : ∀ a env' H' F' fp', EnvR K env' σ H' F' fp' → Stp P H F (fpOf env' fp') H' F' → Q a env' H' F' fp' → Q' a env' H' F' fp') : o.asks K W σ H F P Q' := by
  cases o with
  | stuck => exact h
  | ok a env' => exact fun H' F' fp' E t => k a env' H' F' fp' E t (h H' F' fp' E (s.trans t))
  | exc x env' => exact fun cls d H' F' fp' E t x => h cls d H' F' fp' E (s.trans t) x
theorem Out.asks_bind {o : Out α} {f : α → Env → Out β} {Q : β → Env → Hp → Hp → (Nat → List Addr) → Prop}
    (h : (o.bind f).asks K W σ H F P Q) : o.asks K W σ H F P fun a env' H' F' fp' => EnvR K env' σ H' F' fp' ∧ Stp P H F (fpOf env' fp') H' F' ∧ (f a env').asks K W σ H' F' (fpOf env' fp') Q := by
  cases o with
  | stuck => exact h
  | exc x env' => exact h
  | ok a env' => exact fun H' F' fp' E s => ⟨E, s, Out.asks_mono (Q := Q) s h fun _ _ _ _ _ _ _ p => p⟩
theorem Out.asks_ok {a : α} {env : Env} {fp : Nat → List Addr} {Q : α → Env → Hp → Hp → (Nat → List Addr) → Prop}
    (h : (Out.ok a env).asks K W σ H F P Q) (E : EnvR K env σ H F fp) (s : Stp P H F (fpOf env fp) H F) : Q a env H F fp := h H F fp E s
end

/-- weaken a reading -/
theorem pe_imp {X : Cx} {e : Expr} {t t' : TE} (h : PE X e t) (k : ∀ σ H Q, t' σ H Q → t σ H Q) : PE X e t' := ⟨fun pins s σ H Q I q => h.run pins s σ H Q I (k σ H Q q)⟩
theorem pt_imp {X : Cx} {e : Expr} {t t' : TT} (h : PT X e t) (k : ∀ σ H Q, t' σ H Q → t σ H Q) : PT X e t' := ⟨fun pins s σ H Q I q => h.run pins s σ H Q I (k σ H Q q)⟩
theorem pw_imp {X : Cx} {e : Expr} {t t' : TT} (h : PW X e t) (k : ∀ σ H Q, t' σ H Q → t σ H Q) : PW X e t' := ⟨fun w pins s σ H Q I q => h.run w pins s σ H Q I (k σ H Q q)⟩
theorem pa_imp {X : Cx} {e : List Expr} {t t' : TA} (h : PA X e t) (k : ∀ σ H Q, t' σ H Q → t σ H Q) : PA X e t' := ⟨fun p pins s σ H Q I q => h.run p pins s σ H Q I (k σ H Q q)⟩
end G
namespace G
open PySem PySem.Spec PyProof.Rows L2

/-! # values -/
def toT : Iv → T
  | .val t => t
  | .own o => frz o
  | .lck o => frz o
def look (env : Env) : R → Option Iv
  | .val t => some (.val t)
  | .new o => some (.own o)
  | .loan i => match env[i]? with | some x => x | none => none
def seqL : T → Option (List T)
  | .lst xs => some xs
  | .rlst xs => some xs
  | _ => none
def seqA : T → Option (List T)
  | .lst xs => some xs
  | .rlst xs => some xs
  | .tup xs => some xs
  | _ => none
/-- a key -/
def keyT : T → Option Key
  | .int i => some (.inl i)
  | .str s => some (.inr s)
  | _ => none
def flatT : T → Option V
  | .non => some .non
  | .bl b => some (.bl b)
  | .int i => some (.int i)
  | .str s => some (.str s)
  | _ => none

section
variable {K : PySem.W.Frag} {H F : Hp} {v : V} {t : T} {iv : Iv} {l : List Addr}
theorem IvR.den (s : Same F H) (h : IvR K H F v iv l) : ∃ F', Same F F' ∧ Same F' H ∧ Den K F' v (toT iv) := by
  cases h with
  | val d => exact ⟨F, fun _ _ h => h, s, d⟩
  | own h =>
    cases h with
    | @lst a vs ts e d =>
      refine ⟨H, s, fun _ _ h => h, .lst e (d.mono s)⟩
    | @dic a kvs kts e d => exact ⟨H, s, fun _ _ h => h, .dic (.inl e) (d.mono s)⟩
    | obj e c d => exact ⟨H, s, fun _ _ h => h, .obj e c (d.mono s)⟩
  | lck h =>
    cases h with
    | @lst a vs ts e d =>
      refine ⟨H, s, fun _ _ h => h, .lst e (d.mono s)⟩
    | @dic a ob kvs kts e d => exact ⟨H, s, fun _ _ h => h, .dic (.inr ⟨ob, e⟩) (d.mono s)⟩
/-- read at the heap itself -/
theorem IvR.denH (s : Same F H) (h : IvR K H F v iv l) : Den K H v (toT iv) := by
  obtain ⟨F', _, s', d⟩ := h.den s
  exact d.mono s'
theorem Den.lstF {xs : List T} (d : Den K F v (.lst xs)) : ∃ a vs, v = .ref a ∧ F a = some (.lst vs) ∧ DenAll K F vs xs := by
  cases d with
  | lst h d => exact ⟨_, _, rfl, h, d⟩
/-- a value that is read: frozen, or an owned one whose parts are frozen -/
inductive VR (K : PySem.W.Frag) (H F : Hp) : V → T → Prop
  | fz {v : V} {t : T} : Den K F v t → VR K H F v t
  | lst {a : Addr} {vs : List V} {ts : List T} : H a = some (.lst vs) → DenAll K F vs ts → VR K H F (.ref a) (.lst ts)
  | dic {a : Addr} {kvs : List (Key × V)} {kts : List (Key × T)} : Rd H a (.dK kvs) → DenKV K F kvs kts → VR K H F (.ref a) (.dic kts)
  | obj {a C dx : Addr} {nm : Str} {vs : List (Str × V)} {kts : List (Key × T)} : H a = some (.ins C dx vs) → ClsNm K C nm → DenKV K F (fldK vs) kts → VR K H F (.ref a) (.obj nm kts)
theorem IvR.vr (h : IvR K H F v iv l) : VR K H F v (toT iv) := by
  cases h with
  | val d => exact .fz d
  | own h =>
    cases h with
    | lst e d => exact .lst e d
    | dic e d => exact .dic (.inl e) d
    | obj e c d => exact .obj e c d
  | lck h =>
    cases h with
    | lst e d => exact .lst e d
    | dic e d => exact .dic (.inr ⟨_, e⟩) d
theorem VR.den (s : Same F H) (h : VR K H F v t) : Den K H v t := by
  cases h with
  | fz d => exact d.mono s
  | lst e d => exact .lst e (d.mono s)
  | dic e d => exact .dic e (d.mono s)
  | obj e c d => exact .obj e c (d.mono s)
theorem Den.seqL (d : Den K H v t) {xs : List T} (e : seqL t = some xs) : ∃ a vs, v = .ref a ∧ SqL K H a vs ∧ DenAll K H vs xs := by
  cases d with
  | lst h d => simp [G.seqL] at e; subst e; exact ⟨_, _, rfl, .inl (.inl h), d⟩
  | rlst h d => simp [G.seqL] at e; subst e; exact ⟨_, _, rfl, h, d⟩
  | _ => simp [G.seqL] at e
theorem Den.seqA (d : Den K H v t) {xs : List T} (e : seqA t = some xs) : ∃ a vs, v = .ref a ∧ (SqL K H a vs ∨ SqT K H a vs) ∧ DenAll K H vs xs := by
  cases d with
  | lst h d => simp [G.seqA] at e; subst e; exact ⟨_, _, rfl, .inl (.inl (.inl h)), d⟩
  | rlst h d => simp [G.seqA] at e; subst e; exact ⟨_, _, rfl, .inl h, d⟩
  | tup h d => simp [G.seqA] at e; subst e; exact ⟨_, _, rfl, .inr h, d⟩
  | _ => simp [G.seqA] at e
theorem Den.is_int {i : Int} (d : Den K H v (.int i)) : v = .int i := by cases d; rfl
theorem Den.is_str {i : Str} (d : Den K H v (.str i)) : v = .str i := by cases d; rfl
theorem Den.is_bl {i : Bool} (d : Den K H v (.bl i)) : v = .bl i := by cases d; rfl
theorem Den.is_non (d : Den K H v .non) : v = .non := by cases d; rfl
theorem Den.lst' {xs : List T} (d : Den K H v (.lst xs)) : ∃ a vs, v = .ref a ∧ H a = some (.lst vs) ∧ DenAll K H vs xs := by
  cases d with
  | lst h d => exact ⟨_, _, rfl, h, d⟩
theorem Den.tup' {xs : List T} (d : Den K H v (.tup xs)) : ∃ a vs, v = .ref a ∧ SqT K H a vs ∧ DenAll K H vs xs := by
  cases d with
  | tup h d => exact ⟨_, _, rfl, h, d⟩
theorem Den.dic' {xs : List (Key × T)} (d : Den K H v (.dic xs)) : ∃ a vs, v = .ref a ∧ Rd H a (.dK vs) ∧ DenKV K H vs xs := by
  cases d with
  | dic h d => exact ⟨_, _, rfl, h, d⟩
theorem Den.flat {u : V} (d : Den K H v t) (e : flatT t = some u) : v = u := by
  cases d <;> simp [flatT] at e <;> exact e
theorem flatT_flat {u : V} (e : flatT t = some u) : flatV u = true := by
  cases t <;> simp [flatT] at e <;> subst e <;> rfl
theorem Den.key {k : Key} (d : Den K H v t) (e : keyT t = some k) : v = kV k := by
  cases d <;> simp [keyT] at e <;> subst e <;> rfl
theorem RR.look {env : Env} {σ : L2.St} {fp : Nat → List Addr} {r : R} (h : RR K σ H F r v l) (E : EnvR K env σ H F fp) (e : look env r = some iv) : ∃ l', IvR K H F v iv l' := by
  cases h with
  | val d => simp [G.look] at e; subst e; exact ⟨_, .val d⟩
  | new h => simp [G.look] at e; subst e; exact ⟨_, .own h⟩
  | @loan _ i h1 =>
    simp only [G.look] at e
    cases h2 : env[i]? with
    | none => rw [h2] at e; simp at e
    | some x =>
      rw [h2] at e
      simp only at e
      subst e
      obtain ⟨v', e1, r⟩ := E.slot i iv h2
      rw [h1] at e1
      cases e1
      exact ⟨_, r⟩
theorem DenKV.keys {kvs : List (Key × V)} {kts : List (Key × T)} (d : DenKV K H kvs kts) : kvs.map (·.1) = kts.map (·.1) := by
  induction kvs generalizing kts with
  | nil => cases d; rfl
  | cons p r ih => cases d with | cons h d => simp [ih d]
theorem DenKV.length {kvs : List (Key × V)} {kts : List (Key × T)} (d : DenKV K H kvs kts) : kvs.length = kts.length := by
  have := congrArg List.length d.keys
  simpa using this
def valT (kts : List (Key × T)) (k : Key) : Option T := (kts.find? fun kv => decide (kv.1 = k)).map (·.2)
def putT (kts : List (Key × T)) (k : Key) (t : T) : List (Key × T) := if (kts.any fun kv => decide (kv.1 = k)) = true then kts.map fun kv => if kv.1 = k then (kv.1, t) else kv else kts ++ [(k, t)]
theorem DenKV.val {kvs : List (Key × V)} {kts : List (Key × T)} (d : DenKV K H kvs kts) (k : Key) : (∃ u t, valV kvs k = some u ∧ valT kts k = some t ∧ Den K H u t) ∨ (valV kvs k = none ∧ valT kts k = none) := by
  induction kvs generalizing kts with
  | nil => cases d; exact .inr ⟨rfl, rfl⟩
  | cons p r ih =>
    cases d with
    | @cons k' v' _ t' ts h d =>
      by_cases e : k' = k
      · subst e
        exact .inl ⟨v', t', by simp [valV], by simp [valT], h⟩
      · have := ih d
        simp only [valV, valT, List.find?_cons, decide_eq_false e] at this ⊢
        exact this
theorem DenKV.any {kvs : List (Key × V)} {kts : List (Key × T)} (d : DenKV K H kvs kts) (k : Key) : (kvs.any fun kv => decide (kv.1 = k)) = (kts.any fun kv => decide (kv.1 = k)) := by
  induction kvs generalizing kts with
  | nil => cases d; rfl
  | cons p r ih => cases d with | cons h d => simp [ih d]
theorem DenKV.put {kvs : List (Key × V)} {kts : List (Key × T)} {u : V} {t : T} (d : DenKV K H kvs kts) (k : Key) (h : Den K H u t) : DenKV K H (putK kvs k u) (putT kts k t) := by
  have hm : ∀ {kvs : List (Key × V)} {kts : List (Key × T)}, DenKV K H kvs kts → DenKV K H (kvs.map fun kv => if kv.1 = k then (kv.1, u) else kv) (kts.map fun kv => if kv.1 = k then (kv.1, t) else kv) := by
    intro kvs
    induction kvs with
    | nil => intro kts d; cases d; exact .nil
    | cons p r ih =>
      intro kts d
      cases d with
      | @cons k' v' _ t' ts h' d =>
        simp only [List.map_cons]
        by_cases e : k' = k
        · rw [if_pos e, if_pos e]; exact .cons h (ih d)
        · rw [if_neg e, if_neg e]; exact .cons h' (ih d)
  have ha : ∀ {kvs : List (Key × V)} {kts : List (Key × T)}, DenKV K H kvs kts → DenKV K H (kvs ++ [(k, u)]) (kts ++ [(k, t)]) := by
    intro kvs
    induction kvs with
    | nil => intro kts d; cases d; exact .cons h .nil
    | cons p r ih =>
      intro kts d
      cases d with
      | cons h' d => exact .cons h' (ih d)
  unfold putK putT
  rw [d.any k]
  split
  · exact hm d
  · exact ha d
end

/-! # == -/
def fitT : Nat → T → Bool
  | _, .non => true
  | _, .bl _ => true
  | _, .int _ => true
  | _, .str x => PyData.strOk x
  | k + 1, .lst xs => xs.all (fitT k)
  | k + 1, .tup xs => xs.all (fitT k)
  | _, _ => false
def eqTs (f : T → T → Bool) : List T → List T → Bool
  | [], [] => true
  | x :: xs, y :: ys => f x y && eqTs f xs ys
  | _, _ => false
def eqT : Nat → T → T → Bool
  | _, .non, .non => true
  | _, .bl a, .bl b => a == b
  | _, .bl a, .int j => (if a then 1 else 0) == j
  | _, .int i, .bl b => i == (if b then 1 else 0)
  | _, .int i, .int j => i == j
  | _, .str x, .str y => x == y
  | k + 1, .lst xs, .lst ys => eqTs (eqT k) xs ys
  | k + 1, .tup xs, .tup ys => eqTs (eqT k) xs ys
  | _, _, _ => false
def keyD : Key → PyData
  | .inl i => .int i
  | .inr s => .str s
def keyFit : Key → Bool
  | .inl _ => true
  | .inr s => PyData.strOk s
/-- what repr takes -/
def fitR : Nat → T → Bool
  | _, .non => true
  | _, .bl _ => true
  | _, .int _ => true
  | _, .str x => PyData.strOk x
  | k + 1, .lst xs => xs.all (fitR k)
  | k + 1, .tup xs => xs.all (fitR k)
  | k + 1, .dic kvs => kvs.all fun kv => keyFit kv.1 && fitR k kv.2
  | _, _ => false
def toD : Nat → T → PyData
  | _, .non => .none
  | _, .bl b => .bool b
  | _, .int i => .int i
  | _, .str x => .str x
  | k + 1, .lst xs => .list (xs.map (toD k))
  | k + 1, .tup xs => .tuple (xs.map (toD k))
  | k + 1, .dic kvs => .dict (kvs.map fun kv => (keyD kv.1, toD k kv.2))
  | _, _ => .none
section
variable {K : PySem.W.Frag} {H F : Hp}
theorem fit_lay : ∀ (k : Nat) (t : T), fitT k t = true → (toD k t).canLay0 = true ∧ (toD k t).depth ≤ k := by
  intro k
  induction k with
  | zero => intro t h; cases t <;> simp [fitT, toD, PyData.canLay0, PyData.depth] at h ⊢ <;> exact h
  | succ k ih =>
    have hs : ∀ xs : List T, xs.all (fitT k) = true → PyData.canLayAll0 (xs.map (toD k)) = true ∧ PyData.depthAll (xs.map (toD k)) ≤ k := by
      intro xs
      induction xs with
      | nil => intro _; simp [PyData.canLayAll0, PyData.depthAll]
      | cons x r ih2 =>
        intro h
        simp only [List.all_cons, Bool.and_eq_true] at h
        obtain ⟨a, b⟩ := ih x h.1
        obtain ⟨c, d⟩ := ih2 h.2
        simp only [List.map_cons, PyData.canLayAll0, PyData.depthAll, a, c, Bool.and_self, true_and]
        omega
    intro t h
    cases t with
    | lst xs => simp only [fitT] at h; obtain ⟨a, b⟩ := hs xs h; simp only [toD, PyData.canLay0, PyData.depth]; exact ⟨a, by omega⟩
    | tup xs => simp only [fitT] at h; obtain ⟨a, b⟩ := hs xs h; simp only [toD, PyData.canLay0, PyData.depth]; exact ⟨a, by omega⟩
    | rlst xs => simp [fitT] at h
    | dic xs => simp [fitT] at h
    | str x => simp [fitT, toD, PyData.canLay0, PyData.depth] at h ⊢; exact h
    | _ => simp [toD, PyData.canLay0, PyData.depth]
theorem fit_dp : ∀ (k : Nat) {v : V} {t : T}, fitT k t = true → Den K H v t → Dp K H v (toD k t) := by
  intro k
  induction k with
  | zero => intro v t h d; cases d <;> simp [fitT] at h <;> simp only [toD] <;> constructor
  | succ k ih =>
    have hs : ∀ {vs : List V} {ts : List T}, ts.all (fitT k) = true → DenAll K H vs ts → DpAll K H vs (ts.map (toD k)) := by
      intro vs
      induction vs with
      | nil => intro ts _ d; cases d; exact .nil
      | cons x r ih2 =>
        intro ts h d
        cases d with
        | cons h1 d =>
          simp only [List.all_cons, Bool.and_eq_true] at h
          exact .cons (ih h.1 h1) (ih2 h.2 d)
    intro v t h d
    cases d with
    | lst e d => simp only [fitT] at h; exact .lst (.inl (.inl e)) (hs h d)
    | tup e d => simp only [fitT] at h; exact .tup e (hs h d)
    | rlst e d => simp [fitT] at h
    | dic e d => simp [fitT] at h
    | adr a => simp [fitT] at h
    | obj e c d => simp [fitT] at h
    | non => exact .non
    | bl b => exact .bl b
    | int i => exact .int i
    | str s => exact .str s
theorem eqTs_eqv (k : Nat) (ih : ∀ x y : T, fitT k x = true → fitT k y = true → eqT k x y = PyData.eqv (toD k x) (toD k y)) : ∀ xs ys : List T, xs.all (fitT k) = true → ys.all (fitT k) = true →
    eqTs (eqT k) xs ys = PyData.eqvAll (xs.map (toD k)) (ys.map (toD k))
  | [], [], _, _ => by simp [eqTs, PyData.eqvAll]
  | [], y :: ys, _, _ => by simp [eqTs, PyData.eqvAll]
  | x :: xs, [], _, _ => by simp [eqTs, PyData.eqvAll]
  | x :: xs, y :: ys, h, h' => by
    simp only [List.all_cons, Bool.and_eq_true] at h h'
    simp only [eqTs, List.map_cons, PyData.eqvAll, ih x y h.1 h'.1, eqTs_eqv k ih xs ys h.2 h'.2]
theorem eqT_eqv : ∀ (k : Nat) (x y : T), fitT k x = true → fitT k y = true → eqT k x y = PyData.eqv (toD k x) (toD k y) := by
  intro k
  induction k with
  | zero => intro x y hx hy; cases x <;> cases y <;> simp [fitT] at hx hy <;> simp [eqT, toD, PyData.eqv]
  | succ k ih =>
    intro x y hx hy
    cases x <;> cases y <;> (try simp [fitT] at hx) <;> (try simp [fitT] at hy) <;> simp only [eqT, toD, PyData.eqv]
    · exact eqTs_eqv k ih _ _ (by simpa using hx) (by simpa using hy)
    · exact eqTs_eqv k ih _ _ (by simpa using hx) (by simpa using hy)
end
def eqR (x y : T) : Option Bool :=
  match flatT x, flatT y with
  | some u, some w => if scal u w = true then some (decide (u = w)) else if (fitT 40 x && fitT 40 y) = true then some (eqT 40 x y) else none
  | _, _ => if (fitT 40 x && fitT 40 y) = true then some (eqT 40 x y) else none
def ordR (op : CmpOp) (x y : T) : Option Bool :=
  match op, x, y with
  | .Lt, .int i, .int j => some (decide (i < j))
  | .LtE, .int i, .int j => some (decide (i ≤ j))
  | .Gt, .int i, .int j => some (decide (j < i))
  | .GtE, .int i, .int j => some (decide (j ≤ i))
  | .Lt, .str i, .str j => some (decide (i.cps.toList < j.cps.toList))
  | .LtE, .str i, .str j => some (!decide (j.cps.toList < i.cps.toList))
  | .Gt, .str i, .str j => some (decide (j.cps.toList < i.cps.toList))
  | .GtE, .str i, .str j => some (!decide (i.cps.toList < j.cps.toList))
  | _, _, _ => none
def flats : List T → Option (List V)
  | [] => some []
  | x :: xs => match flatT x, flats xs with | some u, some us => some (u :: us) | _, _ => none
/-- one sign -/
def oneSign (s : Str) : Option Nat := if s.cps.size = 1 then s.cps[0]? else none
def inR (x y : T) : Option Bool :=
  match y with
  | .str b => match x with
    | .str a => match oneSign a with
      | some c => some (decide (c ∈ b.cps.toList))
      | none => some (!(Builtin.Str.occurrences b a 0 b.length 1).isEmpty)
    | _ => none
  | .lst ys => if (fitT 40 x && ys.all (fitT 39)) = true then some (ys.any fun z => eqT 40 z x) else none
  | .tup ys => match flatT x, flats ys with
    | some u, some us => some (inV u us)
    | _, _ => none
  | .dic kvs => match keyT x with
    | some k => some (valT kvs k).isSome
    | none => none
  | _ => none
def cmpR (op : CmpOp) (x y : T) : Option Bool :=
  match op with
  | .Eq => eqR x y
  | .NotEq => (eqR x y).map not
  | .In => inR x y
  | .NotIn => (inR x y).map not
  | .Is => match y with
    | .non => some (match x with | .non => true | _ => false)
    | _ => none
  | .IsNot => match y with
    | .non => some (match x with | .non => false | _ => true)
    | _ => none
  | op => ordR op x y

/-- a comparison, by denotations -/
def rCmp (K : PySem.W.Frag) (op : CmpOp) : R2 := fun x y H Q => ∃ tx ty b, Den K H x tx ∧ Den K H y ty ∧ cmpR op tx ty = some b ∧ Q (.bl b) H

theorem flats_den {K : PySem.W.Frag} {H : Hp} : ∀ {vs : List V} {ts : List T} {us : List V}, DenAll K H vs ts → flats ts = some us → vs = us ∧ us.all flatV = true
  | _, _, _, .nil, h => by simp [flats] at h; subst h; exact ⟨rfl, rfl⟩
  | _, _, _, .cons (t := t) (ts := ts) d ds, h => by
    simp only [flats] at h
    cases e : flatT t with
    | none => rw [e] at h; simp at h
    | some u =>
      cases e2 : flats ts with
      | none => rw [e, e2] at h; simp at h
      | some us =>
        rw [e, e2] at h
        simp at h
        subst h
        obtain ⟨h1, h2⟩ := flats_den ds e2
        refine ⟨by rw [d.flat e, h1], ?_⟩
        rw [List.all_cons, flatT_flat e, h2]; rfl
theorem oneSign_is {s : Str} {c : Nat} (h : oneSign s = some c) : s = ⟨#[c]⟩ := by
  unfold oneSign at h
  split at h
  · rename_i hs
    cases s with
    | mk cps =>
      simp only at hs h ⊢
      rcases cps with ⟨l⟩
      match l, hs, h with
      | [x], _, h => simp at h; subst h; rfl
  · simp at h

section
variable {X : Cx}
theorem op_eqR (hu : X.A.units + 64 < cLine) : OpR X (compareOp .Eq) (rCmp X.K .Eq) := by
  intro pins s σ H x y v u Q I rx ry h
  obtain ⟨tx, ty, b, dx, dy, e, q⟩ := h
  have e : eqR tx ty = some b := e
  have deep : (if (fitT 40 tx && fitT 40 ty) = true then some (eqT 40 tx ty) else none) = some b → wpAny (model X.prog X.w) X.A (compareOp .Eq v u) (EP X pins σ Q) X.xe s := by
    intro e
    split at e
    · rename_i hf
      simp only [Bool.and_eq_true] at hf
      cases e
      obtain ⟨l1, l2⟩ := fit_lay 40 tx hf.1
      obtain ⟨m1, m2⟩ := fit_lay 40 ty hf.2
      refine op_eqD hu pins s σ H x y v u Q I rx ry ⟨_, _, fit_dp 40 hf.1 dx, fit_dp 40 hf.2 dy, ?_, ?_, ?_⟩
      · simp only [SeqAt.shaped, l1, Bool.true_and]; exact decide_eq_true (by omega)
      · simp only [SeqAt.shaped, m1, Bool.true_and]; exact decide_eq_true (by omega)
      · rw [← eqT_eqv 40 tx ty hf.1 hf.2]; exact q
    · simp at e
  unfold eqR at e
  cases e1 : flatT tx with
  | none => rw [e1] at e; exact deep e
  | some a =>
    cases e2 : flatT ty with
    | none => rw [e1, e2] at e; exact deep e
    | some c =>
      rw [e1, e2] at e
      simp only at e
      split at e
      · rename_i hs
        cases e
        have ex := dx.flat e1
        have ey := dy.flat e2
        subst ex ey
        exact op_eq pins s σ H _ _ v u Q I rx ry ⟨hs, q⟩
      · exact deep e
theorem op_neR (hu : X.A.units + 64 < cLine) : OpR X (compareOp .NotEq) (rCmp X.K .NotEq) := by
  intro pins s σ H x y v u Q I rx ry h
  obtain ⟨tx, ty, b, dx, dy, e, q⟩ := h
  have e : (eqR tx ty).map not = some b := e
  obtain ⟨b', e0, rfl⟩ := Option.map_eq_some_iff.mp e
  clear e
  have e := e0
  clear e0
  have deep : (if (fitT 40 tx && fitT 40 ty) = true then some (eqT 40 tx ty) else none) = some b' → wpAny (model X.prog X.w) X.A (compareOp .NotEq v u) (EP X pins σ Q) X.xe s := by
    intro e
    split at e
    · rename_i hf
      simp only [Bool.and_eq_true] at hf
      cases e
      obtain ⟨l1, l2⟩ := fit_lay 40 tx hf.1
      obtain ⟨m1, m2⟩ := fit_lay 40 ty hf.2
      refine op_neD hu pins s σ H x y v u Q I rx ry ⟨_, _, fit_dp 40 hf.1 dx, fit_dp 40 hf.2 dy, ?_, ?_, ?_⟩
      · simp only [SeqAt.shaped, l1, Bool.true_and]; exact decide_eq_true (by omega)
      · simp only [SeqAt.shaped, m1, Bool.true_and]; exact decide_eq_true (by omega)
      · rw [← eqT_eqv 40 tx ty hf.1 hf.2]; exact q
    · simp at e
  unfold eqR at e
  cases e1 : flatT tx with
  | none => rw [e1] at e; exact deep e
  | some a =>
    cases e2 : flatT ty with
    | none => rw [e1, e2] at e; exact deep e
    | some c =>
      rw [e1, e2] at e
      simp only at e
      split at e
      · rename_i hs
        cases e
        have ex := dx.flat e1
        have ey := dy.flat e2
        subst ex ey
        exact op_ne pins s σ H _ _ v u Q I rx ry ⟨hs, q⟩
      · exact deep e
theorem op_ordR {op : CmpOp} (ho : op = .Lt ∨ op = .LtE ∨ op = .Gt ∨ op = .GtE) : OpR X (compareOp op) (rCmp X.K op) := by
  intro pins s σ H x y v u Q I rx ry h
  obtain ⟨tx, ty, b, dx, dy, e, q⟩ := h
  rcases ho with rfl | rfl | rfl | rfl
  · have e : ordR .Lt tx ty = some b := e
    cases tx <;> cases ty <;> simp only [ordR, Option.some.injEq, reduceCtorEq] at e
    · exact op_lt pins s σ H _ _ v u Q I rx ry ⟨_, _, dx.is_int, dy.is_int, by rw [← e] at q; exact q⟩
    · exact op_lt_str pins s σ H _ _ v u Q I rx ry ⟨_, _, dx.is_str, dy.is_str, by rw [← e] at q; exact q⟩
  · have e : ordR .LtE tx ty = some b := e
    cases tx <;> cases ty <;> simp only [ordR, Option.some.injEq, reduceCtorEq] at e
    · exact op_le pins s σ H _ _ v u Q I rx ry ⟨_, _, dx.is_int, dy.is_int, by rw [← e] at q; exact q⟩
    · exact op_le_str pins s σ H _ _ v u Q I rx ry ⟨_, _, dx.is_str, dy.is_str, by rw [← e] at q; exact q⟩
  · have e : ordR .Gt tx ty = some b := e
    cases tx <;> cases ty <;> simp only [ordR, Option.some.injEq, reduceCtorEq] at e
    · exact op_gt pins s σ H _ _ v u Q I rx ry ⟨_, _, dx.is_int, dy.is_int, by rw [← e] at q; exact q⟩
    · exact op_gt_str pins s σ H _ _ v u Q I rx ry ⟨_, _, dx.is_str, dy.is_str, by rw [← e] at q; exact q⟩
  · have e : ordR .GtE tx ty = some b := e
    cases tx <;> cases ty <;> simp only [ordR, Option.some.injEq, reduceCtorEq] at e
    · exact op_ge pins s σ H _ _ v u Q I rx ry ⟨_, _, dx.is_int, dy.is_int, by rw [← e] at q; exact q⟩
    · exact op_ge_str pins s σ H _ _ v u Q I rx ry ⟨_, _, dx.is_str, dy.is_str, by rw [← e] at q; exact q⟩
end
end G
namespace G
open PySem PySem.Spec PyProof.Rows L2
section
variable {X : Cx}
theorem fit_list {k : Nat} {ys : List T} (h : ys.all (fitT k) = true) : fitT (k + 1) (.lst ys) = true := h
theorem any_eqv (k : Nat) {x : T} (hx : fitT (k + 1) x = true) : ∀ {ys : List T}, ys.all (fitT (k + 1)) = true → (ys.any fun z => eqT (k + 1) z x) = ((ys.map (toD (k + 1))).any fun z => PyData.eqv z (toD (k + 1) x))
  | [], _ => rfl
  | y :: ys, h => by
    simp only [List.all_cons, Bool.and_eq_true] at h
    simp only [List.any_cons, List.map_cons, any_eqv k hx h.2, eqT_eqv (k + 1) y x h.1 hx]
theorem fit_up : ∀ (k : Nat) (t : T), fitT k t = true → fitT (k + 1) t = true := by
  intro k
  induction k with
  | zero => intro t h; cases t <;> simp [fitT] at h ⊢ <;> exact h
  | succ k ih =>
    intro t h
    have hs : ∀ xs : List T, xs.all (fitT k) = true → xs.all (fitT (k + 1)) = true := fun xs h => by
      rw [List.all_eq_true] at h ⊢
      exact fun x hx => ih x (h x hx)
    cases t with
    | lst xs => exact hs xs h
    | tup xs => exact hs xs h
    | rlst xs => simp [fitT] at h
    | dic xs => simp [fitT] at h
    | adr a => simp [fitT] at h
    | obj nm xs => simp [fitT] at h
    | str x => exact h
    | _ => simp [fitT]
theorem toD_up : ∀ (k : Nat) (t : T), fitT k t = true → toD (k + 1) t = toD k t := by
  intro k
  induction k with
  | zero => intro t h; cases t <;> simp [fitT] at h <;> simp [toD]
  | succ k ih =>
    intro t h
    have hs : ∀ xs : List T, xs.all (fitT k) = true → xs.map (toD (k + 1)) = xs.map (toD k) := fun xs h => by
      rw [List.all_eq_true] at h
      exact List.map_congr_left fun x hx => ih x (h x hx)
    cases t with
    | lst xs => simp only [toD]; rw [hs xs h]
    | tup xs => simp only [toD]; rw [hs xs h]
    | rlst xs => simp [fitT] at h
    | dic xs => simp [fitT] at h
    | _ => simp [toD]
theorem valK_isSome {K : PySem.W.Frag} {H : Hp} {kvs : List (Key × V)} {kts : List (Key × T)} (d : DenKV K H kvs kts) (k : Key) : (valV kvs k).isSome = (valT kts k).isSome := by
  rcases d.val k with ⟨u, t, e1, e2, _⟩ | ⟨e1, e2⟩ <;> rw [e1, e2] <;> rfl
/-- in, by one rule for both signs -/
theorem in_core {op : CmpOp} {sg : Bool → Bool} {x y : V} {v u : Value} {Q : VK} {pins : List (Addr × Obj)} {s : Shared} {σ : L2.St} {H : Hp} {tx ty : T} {b : Bool}
    (hu : X.A.units + 65 < cLine)
    (h1 : OpR X (compareOp op) (fun x y H Q => ∃ (c : Nat) (z : Str), x = .str ⟨#[c]⟩ ∧ y = .str z ∧ Q (.bl (sg (decide (c ∈ z.cps.toList)))) H))
    (h2 : OpR X (compareOp op) (fun x y H Q => ∃ i j, x = .str i ∧ y = .str j ∧ Q (.bl (sg (!(Builtin.Str.occurrences j i 0 j.length 1).isEmpty))) H))
    (h3 : OpR X (compareOp op) (fun x y H Q => ∃ d ds, Dp X.K H x d ∧ Dp X.K H y (.list ds) ∧ SeqAt.shaped d = true ∧ SeqAt.shaped (.list ds) = true ∧ Q (.bl (sg (ds.any fun z => PyData.eqv z d))) H))
    (h4 : OpR X (compareOp op) (fun x y H Q => ∃ p xs, y = .ref p ∧ (SqL X.K H p xs ∨ SqT X.K H p xs) ∧ flatV x = true ∧ xs.all flatV = true ∧ Q (.bl (sg (inV x xs))) H))
    (h5 : OpR X (compareOp op) (fun y x H Q => ∃ a o, x = .ref a ∧ DGet H a y o ∧ Q (.bl (sg o.isSome)) H))
    (I : Inv X pins σ H s) (rx : RelV x v) (ry : RelV y u) (dx : Den X.K H x tx) (dy : Den X.K H y ty) (e : inR tx ty = some b) (q : Q (.bl (sg b)) H) :
    wpAny (model X.prog X.w) X.A (compareOp op v u) (EP X pins σ Q) X.xe s := by
  cases ty with
  | str z =>
    cases tx with
    | str a =>
      simp only [inR] at e
      cases eo : oneSign a with
      | some c =>
        rw [eo] at e
        cases e
        exact h1 pins s σ H x y v u Q I rx ry ⟨c, z, by rw [dx.is_str, oneSign_is eo], dy.is_str, q⟩
      | none =>
        rw [eo] at e
        cases e
        exact h2 pins s σ H x y v u Q I rx ry ⟨a, z, dx.is_str, dy.is_str, q⟩
    | _ => simp [inR] at e
  | lst ys =>
    simp only [inR] at e
    split at e
    · rename_i hf
      simp only [Bool.and_eq_true] at hf
      cases e
      have hys : ys.all (fitT 40) = true := by
        have h := hf.2
        rw [List.all_eq_true] at h ⊢
        exact fun z hz => fit_up 39 z (h z hz)
      have ed : toD 40 (.lst ys) = .list (ys.map (toD 40)) := by
        rw [← toD_up 40 (.lst ys) hf.2]
        rfl
      have dl := fit_dp 40 (t := .lst ys) hf.2 dy
      rw [ed] at dl
      obtain ⟨l1, l2⟩ := fit_lay 40 tx hf.1
      obtain ⟨m1, m2⟩ := fit_lay 40 (.lst ys) hf.2
      rw [ed] at m1 m2
      refine h3 pins s σ H x y v u Q I rx ry ⟨_, _, fit_dp 40 hf.1 dx, dl, ?_, ?_, ?_⟩
      · simp only [SeqAt.shaped, l1, Bool.true_and]; exact decide_eq_true (by omega)
      · simp only [SeqAt.shaped, m1, Bool.true_and]; exact decide_eq_true (by omega)
      · rw [← any_eqv 39 hf.1 hys]; exact q
    · simp at e
  | tup ys =>
    simp only [inR] at e
    cases e1 : flatT tx with
    | none => rw [e1] at e; simp at e
    | some a =>
      cases e2 : flats ys with
      | none => rw [e1, e2] at e; simp at e
      | some us =>
        rw [e1, e2] at e
        cases e
        obtain ⟨p, vs, rfl, hq, ds⟩ := dy.tup'
        obtain ⟨f1, f2⟩ := flats_den ds e2
        subst f1
        have ex := dx.flat e1
        subst ex
        exact h4 pins s σ H _ _ v u Q I rx ry ⟨p, _, rfl, .inr hq, flatT_flat e1, f2, q⟩
  | dic kts =>
    simp only [inR] at e
    cases e1 : keyT tx with
    | none => rw [e1] at e; simp at e
    | some k =>
      rw [e1] at e
      cases e
      obtain ⟨p, kvs, rfl, hq, ds⟩ := dy.dic'
      exact h5 pins s σ H _ _ v u Q I rx ry ⟨p, valV kvs k, rfl, .inl ⟨kvs, k, hq, dx.key e1, rfl⟩, by rw [valK_isSome ds k]; exact q⟩
  | _ => simp [inR] at e
theorem op_inDict (hu : X.A.units + 1 < cLine) : OpR X (compareOp .In) (fun y x H Q => ∃ a o, x = .ref a ∧ DGet H a y o ∧ Q (.bl (id o.isSome)) H) := by
  intro pins s σ H y x v u Q I ry rx h
  obtain ⟨a, o, rfl, g, q⟩ := h
  cases rx
  exact d_in hu I g ry fun s' I' => ⟨.bl _, _, I', rfl, q⟩
theorem op_ninDict (hu : X.A.units + 1 < cLine) : OpR X (compareOp .NotIn) (fun y x H Q => ∃ a o, x = .ref a ∧ DGet H a y o ∧ Q (.bl (not o.isSome)) H) := by
  intro pins s σ H y x v u Q I ry rx h
  obtain ⟨a, o, rfl, g, q⟩ := h
  cases rx
  exact d_notIn hu I g ry fun s' I' => ⟨.bl _, _, I', rfl, q⟩
theorem op_inR (hu : X.A.units + 65 < cLine) : OpR X (compareOp .In) (rCmp X.K .In) := by
  intro pins s σ H x y v u Q I rx ry h
  obtain ⟨tx, ty, b, dx, dy, e, q⟩ := h
  refine in_core (sg := id) hu op_in_sign op_in_str (op_inD hu) ?_ (op_inDict (by omega)) I rx ry dx dy e q
  intro pins s σ H x y v u Q I rx ry h
  obtain ⟨p, xs, a, b, c, d, q⟩ := h
  exact op_in_seq pins s σ H x y v u Q I rx ry ⟨p, xs, a, b, c, d, q⟩
theorem op_ninR (hu : X.A.units + 65 < cLine) : OpR X (compareOp .NotIn) (rCmp X.K .NotIn) := by
  intro pins s σ H x y v u Q I rx ry h
  obtain ⟨tx, ty, b, dx, dy, e, q⟩ := h
  obtain ⟨b', e', rfl⟩ := Option.map_eq_some_iff.mp (show (inR tx ty).map not = some b from e)
  refine in_core (sg := not) hu op_notIn_sign op_notIn_str (op_notInD hu) ?_ (op_ninDict (by omega)) I rx ry dx dy e' q
  intro pins s σ H x y v u Q I rx ry h
  obtain ⟨p, xs, a, b, c, d, q⟩ := h
  exact op_notIn_seq pins s σ H x y v u Q I rx ry ⟨p, xs, a, b, c, d, q⟩
def isNon : T → Bool
  | .non => true
  | _ => false
theorem is_non {K : PySem.W.Frag} {H : Hp} {x : V} {t : T} (d : Den K H x t) : decide (x = .non) = isNon t := by
  cases d <;> rfl
theorem op_isR : OpR X (compareOp .Is) (rCmp X.K .Is) := by
  intro pins s σ H x y v u Q I rx ry h
  obtain ⟨tx, ty, b, dx, dy, e, q⟩ := h
  cases ty <;> simp only [cmpR, Option.some.injEq, reduceCtorEq] at e
  have : decide (x = .non) = b := by rw [is_non dx, ← e]; cases tx <;> rfl
  exact op_isN pins s σ H x y v u Q I rx ry ⟨dy.is_non, by rw [this]; exact q⟩
theorem op_isnR : OpR X (compareOp .IsNot) (rCmp X.K .IsNot) := by
  intro pins s σ H x y v u Q I rx ry h
  obtain ⟨tx, ty, b, dx, dy, e, q⟩ := h
  cases ty <;> simp only [cmpR, Option.some.injEq, reduceCtorEq] at e
  refine op_notN pins s σ H x y v u Q I rx ry ⟨dy.is_non, ?_⟩
  have : (!decide (x = .non)) = b := by rw [is_non dx, ← e]; cases tx <;> rfl
  rw [this]; exact q
/-- every comparison -/
theorem op_cmpR (hu : X.A.units + 65 < cLine) (op : CmpOp) : OpR X (compareOp op) (rCmp X.K op) := by
  cases op with
  | Eq => exact op_eqR (by omega)
  | NotEq => exact op_neR (by omega)
  | Lt => exact op_ordR (.inl rfl)
  | LtE => exact op_ordR (.inr (.inl rfl))
  | Gt => exact op_ordR (.inr (.inr (.inl rfl)))
  | GtE => exact op_ordR (.inr (.inr (.inr rfl)))
  | In => exact op_inR hu
  | NotIn => exact op_ninR hu
  | Is => exact op_isR
  | IsNot => exact op_isnR
end

/-! # arithmetic -/
def mulOk (i j : Int) : Bool := decide (-(2 ^ 64) < i ∧ i < 2 ^ 64) || decide (-(2 ^ 64) < j ∧ j < 2 ^ 64) || decide (i.natAbs.log2 + j.natAbs.log2 < 1000000)
/-- a result without an address of its own: a value or a new thing of denotations -/
inductive Rv where
  | val (t : T) | lst (xs : List T) | tup (xs : List T)
def addR (x y : T) : Option Rv :=
  match x, y with
  | .int i, .int j => some (.val (.int (i + j)))
  | .str i, .str j => if i.length + j.length ≤ sizeLine then some (.val (.str (i ++ j))) else none
  | .tup a, .tup b => if a.length + b.length ≤ sizeLine then some (.tup (a ++ b)) else none
  | .lst a, .lst b => if a.length + b.length ≤ sizeLine then some (.lst (a ++ b)) else none
  | _, _ => none
/-- a text, n times -/
def repS (x : Str) (n : Int) : Str := if n < 1 then Str.empty else if (n == 1 || x.length == 0) = true then x else ⟨(List.replicate n.toNat x.cps).foldl (· ++ ·) #[]⟩
theorem rep_size (a : Array Nat) : ∀ (k : Nat) (acc : Array Nat), ((List.replicate k a).foldl (· ++ ·) acc).size = acc.size + k * a.size
  | 0, acc => by simp
  | k + 1, acc => by
    rw [List.replicate_succ, List.foldl_cons, rep_size a k, Array.size_append, Nat.succ_mul]
    omega
theorem op_mul_str {X : Cx} : OpR X (binaryOp .Mult) fun x y H Q => ∃ (i : Str) (n : Int), x = .str i ∧ y = .int n ∧ n < 1000 ∧ -1000 < n ∧ i.length ≤ 1000 ∧ Q (.str (repS i n)) H := by
  intro pins s σ H x y v u Q I rx ry h
  obtain ⟨i, n, rfl, rfl, h1, h2, h3, q⟩ := h
  obtain ⟨t, rfl⟩ := rx
  obtain ⟨t2, rfl⟩ := ry
  have hs : n.toNat * i.cps.size ≤ 1000000 := by
    have h4 : n.toNat ≤ 1000 := by omega
    exact Nat.le_trans (Nat.mul_le_mul h4 h3) (by decide)
  have hs' : i.length * n.toNat ≤ 1000000 := by
    rw [Nat.mul_comm]; exact hs
  refine PySem.P.mul_str (by
      have a1 : ¬ n < -(2 ^ 63 : Int) := by omega
      have a2 : ¬ n ≥ 2 ^ 63 := by omega
      rw [decide_eq_false a1, decide_eq_false a2]; rfl) (fun a b hc => ?_) (fun a b => ?_) ?_
  · have a3 : (2 ^ 63 - 1 : Int) / n ≥ (2 ^ 63 - 1) / 1000 := by
      refine Int.le_of_lt_add_one ?_
      have : (2 ^ 63 - 1 : Int) / 1000 < (2 ^ 63 - 1) / n + 1 := by
        refine Int.lt_add_one_of_le ?_
        refine Int.le_ediv_of_mul_le (by omega) ?_
        have : (2 ^ 63 - 1 : Int) / 1000 * n ≤ (2 ^ 63 - 1 : Int) / 1000 * 1000 := Int.mul_le_mul_of_nonneg_left (by omega) (by decide)
        exact Int.le_trans this (by decide)
      exact this
    have a4 : ((2 ^ 63 - 1 : Int) / 1000) ≥ 1001 := by decide
    have a5 : (i.length : Int) ≤ 1000 := by omega
    omega
  · unfold Builtin.Str.tooLong
    have : ¬ i.length * n.toNat > sizeLine := by
      have : (1000000 : Nat) ≤ sizeLine := by decide
      omega
    simpa using this
  · unfold repS at q
    split
    · rename_i hn
      rw [if_pos hn] at q
      exact ⟨by decide, .str Str.empty, H, I.tok _, ⟨_, rfl⟩, q⟩
    · rename_i hn
      rw [if_neg hn] at q
      split
      · rename_i hb
        rw [if_pos hb] at q
        exact ⟨.str i, H, I, ⟨_, rfl⟩, q⟩
      · rename_i hb
        rw [if_neg hb] at q
        refine ⟨?_, .str _, H, I.tok _, ⟨_, rfl⟩, q⟩
        show (_ : Array Nat).size ≤ _
        rw [rep_size]
        have : (1000000 : Nat) ≤ sizeLine := by decide
        simp only [List.size_toArray, List.length_nil]
        omega
def binR (op : Operator) (x y : T) : Option Rv :=
  match op, x, y with
  | .Add, x, y => addR x y
  | .Sub, .int i, .int j => some (.val (.int (i - j)))
  | .Mult, .int i, .int j => if mulOk i j = true then some (.val (.int (i * j))) else none
  | .Mult, .str i, .int n => if n < 1000 ∧ -1000 < n ∧ i.length ≤ 1000 then some (.val (.str (repS i n))) else none
  | .FloorDiv, .int i, .int j => if 0 < j ∧ j.natAbs.log2 < 9000 then some (.val (.int (i / j))) else if j ≠ 0 ∧ j.natAbs < 1073741824 then some (.val (.int (i.fdiv j))) else none
  | .Mod, .int i, .int j => if 0 < j then some (.val (.int (i % j))) else if j ≠ 0 then some (.val (.int (i.fmod j))) else none
  | .Pow, .int i, .int j => if 0 ≤ j ∧ j ≤ 1000000 ∧ i.natAbs < 2 ^ 64 then some (.val (.int (i ^ j.toNat))) else none
  | _, _, _ => none
/-- what such a result is at a value: old, or a new list or tuple -/
def RvAt (K : PySem.W.Frag) (H F : Hp) (Q : VK) : Rv → Prop
  | .val t => ∀ v, Den K F v t → Q v H
  | .lst xs => ∀ p vs, H p = none → DenAll K F vs xs → Q (.ref p) (upd H p (.lst vs))
  | .tup xs => (∀ p vs, H p = none → DenAll K F vs xs → Q (.ref p) (upd H p (.tup vs))) ∧ ∀ v, Den K F v (.tup xs) → Q v H
def rBin (K : PySem.W.Frag) (op : Operator) : R2 := fun x y H Q => ∃ F tx ty r, Same F H ∧ VR K H F x tx ∧ VR K H F y ty ∧ binR op tx ty = some r ∧ RvAt K H F Q r
theorem VR.tupF {K : PySem.W.Frag} {H F : Hp} {v : V} {xs : List T} (h : VR K H F v (.tup xs)) : Den K F v (.tup xs) := by cases h with | fz d => exact d
theorem VR.lstF {K : PySem.W.Frag} {H F : Hp} {v : V} {xs : List T} (s : Same F H) (h : VR K H F v (.lst xs)) : ∃ a vs, v = .ref a ∧ H a = some (.lst vs) ∧ DenAll K F vs xs := by
  cases h with
  | fz d => obtain ⟨a, vs, e, h, d⟩ := d.lstF; exact ⟨a, vs, e, s _ _ h, d⟩
  | lst e d => exact ⟨_, _, rfl, e, d⟩
theorem VR.dicF {K : PySem.W.Frag} {H F : Hp} {v : V} {xs : List (Key × T)} (s : Same F H) (h : VR K H F v (.dic xs)) : ∃ a vs, v = .ref a ∧ Rd H a (.dK vs) ∧ DenKV K F vs xs := by
  cases h with
  | fz d => obtain ⟨a, vs, e, h, d⟩ := d.dic'; exact ⟨a, vs, e, rd_mono s h, d⟩
  | dic e d => exact ⟨_, _, rfl, e, d⟩
theorem VR.rlstF {K : PySem.W.Frag} {H F : Hp} {v : V} {xs : List T} (s : Same F H) (h : VR K H F v (.rlst xs)) : ∃ a vs, v = .ref a ∧ SqL K H a vs ∧ DenAll K F vs xs := by
  cases h with
  | fz d =>
    cases d with
    | rlst h d => exact ⟨_, _, rfl, s.seq h, d⟩
section
variable {X : Cx}
theorem op_binR (op : Operator) : OpR X (binaryOp op) (rBin X.K op) := by
  intro pins s σ H x y v u Q I rx ry h
  obtain ⟨F, tx, ty, r, hs, vx, vy, e, q⟩ := h
  have dx := vx.den hs
  have dy := vy.den hs
  cases op with
  | Add =>
    have e : addR tx ty = some r := e
    cases tx <;> cases ty <;> simp only [addR, Option.some.injEq, reduceCtorEq] at e
    · subst e
      exact op_add pins s σ H x y v u Q I rx ry ⟨_, _, dx.is_int, dy.is_int, q _ (.int _)⟩
    · split at e
      · cases e
        exact op_add_str pins s σ H x y v u Q I rx ry ⟨_, _, dx.is_str, dy.is_str, by assumption, q _ (.str _)⟩
      · simp at e
    · split at e
      · rename_i hz
        cases e
        obtain ⟨a, vs, rfl, ha, da⟩ := vx.tupF.tup'
        obtain ⟨b, ws, rfl, hb, db⟩ := vy.tupF.tup'
        have hl : vs.length + ws.length ≤ sizeLine := by rw [da.length, db.length]; exact hz
        refine op_catA pins s σ H _ _ v u Q I rx ry ⟨a, b, vs, ws, rfl, rfl, same_t hs ha, same_t hs hb, hl, ?_, ?_, ?_⟩
        · intro ex
          subst ex
          cases da
          exact q.2 _ (.tup hb db)
        · intro _ ey
          subst ey
          cases db
          rw [List.append_nil] at q
          exact q.2 _ (.tup ha da)
        · intro _ _ p hp
          exact q.1 p _ hp (da.append db)
      · simp at e
    · split at e
      · rename_i hz
        cases e
        obtain ⟨a, vs, rfl, ha, da⟩ := vx.lstF hs
        obtain ⟨b, ws, rfl, hb, db⟩ := vy.lstF hs
        exact op_cat pins s σ H _ _ v u Q I rx ry ⟨a, b, vs, ws, rfl, rfl, ha, hb, by rw [da.length, db.length]; exact hz, fun p hp => q p _ hp (da.append db)⟩
      · simp at e
  | Sub =>
    cases tx <;> cases ty <;> simp only [binR, Option.some.injEq, reduceCtorEq] at e
    subst e
    exact op_sub pins s σ H x y v u Q I rx ry ⟨_, _, dx.is_int, dy.is_int, q _ (.int _)⟩
  | Mult =>
    cases tx <;> cases ty <;> simp only [binR, Option.some.injEq, reduceCtorEq] at e
    split at e
    · rename_i hm
      cases e
      simp only [mulOk, Bool.or_eq_true, decide_eq_true_eq] at hm
      rcases hm with (hm | hm) | hm
      · exact op_mul pins s σ H x y v u Q I rx ry ⟨_, _, dx.is_int, dy.is_int, .inl hm, q _ (.int _)⟩
      · exact op_mul pins s σ H x y v u Q I rx ry ⟨_, _, dx.is_int, dy.is_int, .inr hm, q _ (.int _)⟩
      · exact op_mulW pins s σ H x y v u Q I rx ry ⟨_, _, dx.is_int, dy.is_int, hm, q _ (.int _)⟩
    · simp at e
    · split at e
      · rename_i hm
        cases e
        exact op_mul_str pins s σ H x y v u Q I rx ry ⟨_, _, dx.is_str, dy.is_int, hm.1, hm.2.1, hm.2.2, q _ (.str _)⟩
      · cases e
  | FloorDiv =>
    cases tx <;> cases ty <;> simp only [binR, Option.some.injEq, reduceCtorEq] at e
    split at e
    · rename_i hm
      cases e
      exact op_fdivW pins s σ H x y v u Q I rx ry ⟨_, _, dx.is_int, dy.is_int, hm, q _ (.int _)⟩
    · split at e
      · rename_i hm
        cases e
        exact op_fdivN pins s σ H x y v u Q I rx ry ⟨_, _, dx.is_int, dy.is_int, hm, q _ (.int _)⟩
      · simp at e
  | Mod =>
    cases tx <;> cases ty <;> simp only [binR, Option.some.injEq, reduceCtorEq] at e
    split at e
    · rename_i hm
      cases e
      exact op_mod pins s σ H x y v u Q I rx ry ⟨_, _, dx.is_int, dy.is_int, hm, q _ (.int _)⟩
    · split at e
      · rename_i hm
        cases e
        exact op_modN pins s σ H x y v u Q I rx ry ⟨_, _, dx.is_int, dy.is_int, hm, q _ (.int _)⟩
      · simp at e
  | Pow =>
    cases tx <;> cases ty <;> simp only [binR, Option.some.injEq, reduceCtorEq] at e
    split at e
    · rename_i hm
      cases e
      exact op_pow pins s σ H x y v u Q I rx ry ⟨_, _, dx.is_int, dy.is_int, hm, q _ (.int _)⟩
    · simp at e
  | _ => simp [binR] at e
end

/-! # subscripts, truth, length -/
def ixR (x y : T) : Option T :=
  match x, y with
  | .lst xs, .int i => atI xs i
  | .rlst xs, .int i => atI xs i
  | .tup xs, .int i => atI xs i
  | .str z, .int i => if z.length ≤ sizeLine then (atI z.cps.toList i).map fun c => .str ⟨#[c]⟩ else none
  | .dic kts, y => match keyT y with | some k => valT kts k | none => none
  | _, _ => none
theorem atI_den {K : PySem.W.Frag} {H : Hp} {vs : List V} {ts : List T} {i : Int} {t : T} (d : DenAll K H vs ts) (e : atI ts i = some t) : ∃ u, atI vs i = some u ∧ Den K H u t := by
  unfold atI at e ⊢
  rw [d.length]
  cases ej : ixN ts.length i with
  | none => rw [ej] at e; simp at e
  | some j =>
    rw [ej] at e
    exact d.get (i := j) (by simpa using e)
def rIxR (K : PySem.W.Frag) : R2 := fun x y H Q => ∃ F tx ty t, Same F H ∧ VR K H F x tx ∧ Den K H y ty ∧ ixR tx ty = some t ∧ ∀ v, Den K F v t → Q v H
section
variable {X : Cx}
theorem ix_dict (hu : X.A.units + 1 < cLine) : IxR X (fun x y H Q => ∃ a v, x = .ref a ∧ DGet H a y (some v) ∧ Q v H) := by
  intro value slice pins s σ H x y v u Q I rx ry h hs
  obtain ⟨a, w, rfl, g, q⟩ := h
  cases rx
  have hT := dict_typeIs I g
  unfold subscriptTail
  refine wpAny_bind ?_
  rw [getitemInPython_of_ne hT.not_modules]
  refine wpAny_bind (wpAny_specialOf hT PySem.F.slot_dict_getitem.lookup ?_)
  have fin : wpAny (model X.prog X.w) X.A (subscripted slice false (.ref a) u) (fun r s₃ => wpAny (model X.prog X.w) X.A (letTemporaryGo value (.ref a) r >>= fun _ => pure r) (EP X pins σ Q) X.xe s₃) X.xe s := by
    rw [hs]
    exact wpAny_operating (d_getItem hu I g ry fun w' s3 I3 rw' => wpAny_bind (wpAny_letTemporaryGo (wpAny_pure ⟨w, H, I3, rw', q⟩)))
  first
    | exact wpAny_pure (wpAny_bind fin)
    | exact wpAny_bind (wpAny_pure (wpAny_bind fin))
    | exact wpAny_bind fin
theorem ix_R (hu : X.A.units + 1 < cLine) : IxR X (rIxR X.K) := by
  intro value slice pins s σ H x y v u Q I rx ry h hs
  obtain ⟨F, tx, ty, t, hF, dx, dy, e, q⟩ := h
  have seq : ∀ {xs : List T} {i : Int}, ty = .int i → atI xs i = some t → (∃ a vs, x = .ref a ∧ (SqL X.K H a vs ∨ SqT X.K H a vs) ∧ DenAll X.K F vs xs) →
      wpAny (model X.prog X.w) X.A (subscriptTail value slice v u) (EP X pins σ Q) X.xe s := by
    intro xs i ey ea ⟨a, vs, ex, hq, ds⟩
    subst ey ex
    obtain ⟨w, ew, dw⟩ := atI_den ds ea
    rcases hq with hq | hq
    · exact ix_list value slice pins s σ H _ y v u Q I rx ry ⟨a, vs, i, w, rfl, dy.is_int, hq, ew, q w dw⟩ hs
    · exact ix_tup value slice pins s σ H _ y v u Q I rx ry ⟨a, vs, i, w, rfl, dy.is_int, hq, ew, q w dw⟩ hs
  cases tx with
  | lst xs =>
    cases ty <;> simp only [ixR, reduceCtorEq] at e
    obtain ⟨a, vs, ex, hq, ds⟩ := dx.lstF hF
    exact seq rfl e ⟨a, vs, ex, .inl (.inl (.inl hq)), ds⟩
  | rlst xs =>
    cases ty <;> simp only [ixR, reduceCtorEq] at e
    obtain ⟨a, vs, ex, hq, ds⟩ := dx.rlstF hF
    exact seq rfl e ⟨a, vs, ex, .inl hq, ds⟩
  | tup xs =>
    cases ty <;> simp only [ixR, reduceCtorEq] at e
    obtain ⟨a, vs, ex, hq, ds⟩ := dx.tupF.tup'
    exact seq rfl e ⟨a, vs, ex, .inr (same_t hF hq), ds⟩
  | str z =>
    cases ty <;> simp only [ixR, reduceCtorEq] at e
    split at e
    · rename_i i hz
      obtain ⟨c, ec, rfl⟩ := Option.map_eq_some_iff.mp e
      exact ix_str value slice pins s σ H _ y v u Q I rx ry ⟨z, i, c, (dx.den hF).is_str, dy.is_int, hz, ec, q _ (.str _)⟩ hs
    · simp at e
  | dic kts =>
    simp only [ixR] at e
    cases ek : keyT ty with
    | none => rw [ek] at e; simp at e
    | some k =>
      rw [ek] at e
      obtain ⟨a, kvs, rfl, hq, ds⟩ := dx.dicF hF
      rcases ds.val k with ⟨w, t', e1, e2, dw⟩ | ⟨_, e2⟩
      · simp only at e
        rw [e] at e2
        cases e2
        exact ix_dict hu value slice pins s σ H _ y v u Q I rx ry ⟨a, w, rfl, .inl ⟨kvs, k, hq, dy.key ek, e1.symm⟩, q w dw⟩ hs
      · simp only at e
        rw [e] at e2
        cases e2
  | _ => simp [ixR] at e
end
def truR (x : T) : Option Bool :=
  match x with
  | .non => some false
  | .bl b => some b
  | .int i => some (i != 0)
  | .str y => if y.length ≤ sizeLine then some ((y.length : Int) != 0) else none
  | .lst xs => some (!xs.isEmpty)
  | .rlst xs => some (!xs.isEmpty)
  | .tup xs => some (!xs.isEmpty)
  | .dic _ => none
  | .adr _ => none
  | .obj _ _ => none
theorem DenAll.isEmpty {K : PySem.W.Frag} {H : Hp} {vs : List V} {ts : List T} (d : DenAll K H vs ts) : vs.isEmpty = ts.isEmpty := by cases d <;> rfl
theorem DenKV.isEmpty {K : PySem.W.Frag} {H : Hp} {vs : List (Key × V)} {ts : List (Key × T)} (d : DenKV K H vs ts) : vs.isEmpty = ts.isEmpty := by cases d <;> rfl
theorem Den.tru {K : PySem.W.Frag} {H : Hp} {x : V} {t : T} {b : Bool} (d : Den K H x t) (e : truR t = some b) : TruV K x H b := by
  cases d with
  | non => cases e; exact rfl
  | bl b => cases e; exact rfl
  | int i => cases e; exact rfl
  | str s =>
    simp only [truR] at e
    split at e
    · cases e; exact ⟨by assumption, rfl⟩
    · simp at e
  | tup h d => cases e; exact .inr (.inl ⟨_, h, by rw [d.isEmpty]⟩)
  | lst h d => cases e; exact .inl ⟨_, .inl (.inl h), by rw [d.isEmpty]⟩
  | rlst h d => cases e; exact .inl ⟨_, h, by rw [d.isEmpty]⟩
  | dic h d => cases e
  | adr a => cases e
  | obj h c d => cases e
def lenR (x : T) : Option Int :=
  match x with
  | .str y => if y.length ≤ sizeLine then some y.length else none
  | .lst xs => some xs.length
  | .rlst xs => some xs.length
  | .tup xs => some xs.length
  | _ => none
end G
namespace G
open PySem PySem.Spec PyProof.Rows L2

/-! # the small language -/
/-- built-ins of plain values -/
inductive BI where
  | len | int | abs | str | list | tuple | max2 | min2 | all | gcd | repr | sortedS | bool | sum | sortedI | sorted
  deriving DecidableEq, Repr
/-- methods of texts and ints that hand back a value -/
inductive Me0 where
  | bits | strip | isdigit
  deriving DecidableEq, Repr
inductive Me1 where
  | join | split | startswith
  deriving DecidableEq, Repr
/-- methods that change the list in a slot -/
inductive Mu where
  | append | extend | pop | insert
  deriving DecidableEq, Repr
inductive Tgt where
  | name (i : Nat)
  | tup (is : List Nat)
  deriving DecidableEq, Repr

mutual
inductive IE where
  | var (i : Nat)
  | mov (i : Nat)
  | non | bl (b : Bool) | int (i : Int) | str (s : Str)
  | glob (j : Nat)
  | bin (op : Operator) (a b : IE)
  | neg (a : IE)
  | not (a : IE)
  | and (a b : IE)
  | or (a b : IE)
  | cmp (op : CmpOp) (a b : IE)
  | chain (op op' : CmpOp) (a b c : IE)
  | ifx (c : IB) (a b : IE)
  | tup (es : IEs)
  | lst (es : IEs)
  | dnew
  | call (f : Nat) (args : IEs)
  | bi (b : BI) (args : IEs)
  | isin (a : IE) (tys : List String)
  | ix (a i : IE)
  | sl (a : IE) (lo hi : IO)
  | met0 (m : Me0) (o : IE)
  | met1 (m : Me1) (o a : IE)
  | dget2 (o k x : IE)
  | sortLF (e : IE)
  | lc (src : Src) (tg : Tgt) (cond : IBO) (elt : IE) (own : List (Str × Nat))
  | dc (src : Src) (tg : Tgt) (cond : IBO) (key val : IE) (own : List (Str × Nat))
  | lockd (i : Nat) (e : IE)
  | disp (es : IEs)
  | fstr (es : IEs)
  | efld (e : IE) (f : Str)
  | eisin (e : IE) (yes : List Str)
  | ecall (f : Nat) (e : IE)
  | fld (e : IE) (f : Str) (ns : List Str)
  | meth (m : Str) (ms : List (Str × Nat)) (o : IE) (args : IEs)
  | make (c : Str) (f : Nat) (args : IEs)
inductive IEs where
  | nil
  | cons (e : IE) (es : IEs)
inductive IO where
  | none
  | some (e : IE)
inductive IB where
  | val (e : IE)
  | not (a : IB)
  | and (a b : IB)
  | or (a b : IB)
inductive IBO where
  | none
  | some (e : IB)
inductive Src where
  | seq (e : IE)
  | rng1 (e : IE)
  | rng2 (a b : IE)
  | zip (a b : IE)
end
/-! the statements of an except suite -/
mutual
inductive SU where
  | asg (i : Nat) (e : IE)
  | ret (e : IE)
  | retN
  | pass
  | ite (c : IB) (a b : SUs)
inductive SUs where
  | nil
  | cons (s : SU) (ss : SUs)
end
mutual
inductive IS where
  | asg (i : Nat) (e : IE)
  | asgT (is : List Nat) (e : IE)
  | par (i j : Nat) (a b : IE)
  | setix (c : Nat) (ix v : IE)
  | mut (m : Mu) (c : Nat) (args : IEs)
  | expr (e : IE)
  | ret (e : IE)
  | retN
  | pass
  | brk
  | cont
  | ite (c : IB) (a b : ISs)
  | for (tg : Tgt) (src : Src) (body : ISs)
  | while (c : IB) (body : ISs)
  | raise (n : String) (msg : Str)
  | try (body : ISs) (n : String) (suite : ISs)
  | raiseX (nm : Str) (flds : List Str) (msg : IE) (args : IEs)
  | tryX (body : ISs) (yes no : List Str) (slot : Option Nat) (suite : SUs)
  | fset (c : Nat) (f : Str) (ns : List Str) (e : IE)
  | su (s : SUs)
inductive ISs where
  | nil
  | cons (s : IS) (ss : ISs)
end

/-! # its meaning -/
def ofO {α : Type} : Option α → Env → Out α
  | .some a, env => .ok a env
  | .none, _ => .stuck
def rvR : Rv → R
  | .val t => .val t
  | .lst xs => .new (.lst xs)
  | .tup xs => .val (.tup xs)
/-- a result as a frozen value -/
def esc (env : Env) : R → Option T
  | .val t => some t
  | .new o => some (frz o)
  | .loan i => match env[i]? with | some (some (.val t)) => some t | _ => none
def escs (env : Env) : List R → Option (List T)
  | [] => some []
  | r :: rs => match esc env r, escs env rs with | some t, some ts => some (t :: ts) | _, _ => none
def lookT (env : Env) (r : R) : Option T := (look env r).map toT
def looks (env : Env) : List R → Option (List T)
  | [] => some []
  | r :: rs => match lookT env r, looks env rs with | some t, some ts => some (t :: ts) | _, _ => none

inductive Res where
  | ok (r : Iv) (outs : List Iv)
  | exc (x : Xv) (outs : List Iv)
  | stuck
def argsOf (env : Env) : List R → Option (List Iv)
  | [] => some []
  | r :: rs => match look env r, argsOf env rs with | some t, some ts => some (t :: ts) | _, _ => none
/-- the slots that are lent, with what they own -/
def lent (env : Env) : List R → List Nat
  | [] => []
  | .loan i :: rs => match env[i]? with | some (some (.val _)) => lent env rs | _ => i :: lent env rs
  | _ :: rs => lent env rs
/-- the lent slots behind a call -/
def back (env : Env) : List R → List Iv → Env
  | .loan i :: rs, o :: os => back (match env[i]? with | some (some (.own _)) => env.set i (some o) | _ => env) rs os
  | _ :: rs, _ :: os => back env rs os
  | _, _ => env
def ivR : Iv → Option R
  | .val t => some (.val t)
  | .own o => some (.new o)
  | .lck _ => none
def callR (C : Nat → List Iv → Res) (f : Nat) (dfl : List T) (env : Env) (rs : List R) : Out R :=
  match argsOf env rs with
  | none => .stuck
  | some ivs => if (lent env rs).Nodup then
      match C f (ivs ++ dfl.map Iv.val) with
      | .ok r outs => match ivR r with | some r => .ok r (back env rs outs) | none => .stuck
      | .exc x outs => .exc x (back env rs outs)
      | .stuck => .stuck
    else .stuck

/-- insertion into a sorted row, the sorted row -/
def insS (x : Str) : List Str → List Str
  | [] => [x]
  | y :: ys => if x.cps.toList < y.cps.toList then x :: y :: ys else y :: insS x ys
def sortS (xs : List Str) : List Str := xs.foldr insS []
def insI (x : Int) : List Int → List Int
  | [] => [x]
  | y :: ys => if x ≤ y then x :: y :: ys else y :: insI x ys
def sortI (xs : List Int) : List Int := xs.foldr insI []
def strsT : List T → Option (List Str)
  | [] => some []
  | .str s :: ts => (strsT ts).map (s :: ·)
  | _ => none
def intsT : List T → Option (List Int)
  | [] => some []
  | .int s :: ts => (intsT ts).map (s :: ·)
  | _ => none
def blsT : List T → Option (List Bool)
  | [] => some []
  | .bl s :: ts => (blsT ts).map (s :: ·)
  | _ => none
/-- repr of nested lists and tuples -/
def isSq : T → Bool
  | .lst _ => true
  | .tup _ => true
  | _ => false
def reprT (t : T) : Option Str := if (isSq t && fitR 40 t && (toD 40 t).showable && decide ((toD 40 t).shown.length ≤ sizeLine)) = true then some (toD 40 t).shown else none
def biR (b : BI) (ts : List T) : Option Rv :=
  match b, ts with
  | .len, [t] => (lenR t).map fun n => .val (.int n)
  | .int, [.int i] => some (.val (.int i))
  | .int, [.bl b] => some (.val (.int (if b then 1 else 0)))
  | .int, [.str s] => if s.length ≤ 640 then (intText? s).map fun n => .val (.int n) else none
  | .bool, [.int i] => some (.val (.bl (i != 0)))
  | .bool, [.bl b] => some (.val (.bl b))
  | .abs, [.int i] => some (.val (.int (if i < 0 then -i else i)))
  | .str, [.int i] => if i.natAbs.log2 < 1920 then some (.val (.str (toString i))) else none
  | .max2, [.int i, .int j] => some (.val (.int (if j > i then j else i)))
  | .min2, [.int i, .int j] => some (.val (.int (if j < i then j else i)))
  | .list, [.str s] => if s.length ≤ 100000 then some (.lst (s.cps.toList.map fun c => T.str ⟨#[c]⟩)) else none
  | .list, [t] => (seqA t).map .lst
  | .tuple, [.tup xs] => some (.val (.tup xs))
  | .tuple, [t] => (seqL t).map .tup
  | .all, [t] => ((seqL t).bind blsT).map fun bs => .val (.bl (bs.all id))
  | .sum, [t] => ((seqL t).bind intsT).map fun bs => .val (.int bs.sum)
  | .gcd, [.int i, .int j] => some (.val (.int ((Nat.gcd i.natAbs j.natAbs : Nat) : Int)))
  | .sortedS, [t] => ((seqL t).bind strsT).bind fun ss => if ss.length < 64 then some (.lst ((sortS ss).map T.str)) else none
  | .sortedI, [t] => ((seqL t).bind intsT).bind fun ss => if ss.length < 64 then some (.lst ((sortI ss).map T.int)) else none
  | .sorted, [t] => match (seqL t).bind strsT with
    | some ss => if ss.length < 64 then some (.lst ((sortS ss).map T.str)) else none
    | none => ((seqL t).bind intsT).bind fun ss => if ss.length < 64 then some (.lst ((sortI ss).map T.int)) else none
  | .repr, [t] => (reprT t).map fun s => .val (.str s)
  | _, _ => none
def tyName : T → String
  | .non => "NoneType"
  | .bl _ => "bool"
  | .int _ => "int"
  | .str _ => "str"
  | .tup _ => "tuple"
  | .lst _ => "list"
  | .rlst _ => "list"
  | .dic _ => "dict"
  | .adr _ => "dict"
  | .obj _ _ => "dict"
def isDicT : T → Bool
  | .dic _ => true
  | .adr _ => true
  | .obj _ _ => true
  | _ => false
def isinR (t : T) (tys : List String) : Bool := tys.any fun n => n == tyName t || (tyName t == "bool" && n == "int")
def met0R (m : Me0) (t : T) : Option Rv :=
  match m, t with
  | .bits, .int i => some (.val (.int (Builtin.Int.intBits i : Nat)))
  | .strip, .str s => if s.length ≤ sizeLine then some (.val (.str (Txt.strip s))) else none
  | .isdigit, .str s => some (.val (.bl (Txt.isdigit s)))
  | _, _ => none
def met1R (m : Me1) (s : Str) (t : T) : Option Rv :=
  match m, t with
  | .join, t => ((seqA t).bind strsT).bind fun ss => if (ss.map Str.length).sum + ss.length * s.length ≤ 16777216 then some (.val (.str (Txt.join s ss))) else none
  | .split, .str b => if (b.length == 0) = false ∧ s.length + 2 ≤ sizeLine then some (.lst ((Txt.split s b).map T.str)) else none
  | .startswith, .str b => some (.val (.bl (Txt.startswith s b)))
  | _, _ => none

def cutT (xs : List T) (lo hi : Option Int) : List T := (xs.drop (HT.sIx xs.length 0 lo)).take (HT.sIx xs.length xs.length hi - HT.sIx xs.length 0 lo)
def slR (x : T) (lo hi : Option Int) : Option Rv := match x with
  | .lst xs => some (.lst (cutT xs lo hi))
  | .rlst xs => some (.lst (cutT xs lo hi))
  | .tup xs => some (.tup (cutT xs lo hi))
  | .str z => if z.length ≤ sizeLine then some (.val (.str (cutS z lo hi))) else none
  | _ => none
def wipeE (env : Env) : List Nat → Env
  | [] => env
  | v :: vs => (wipeE env vs).set v none
def bindAll (fx : Nat → Bool) : List Nat → List T → Env → Option Env
  | [], [], env => some env
  | i :: is, t :: ts, env => if i < env.length ∧ fx i = false then bindAll fx is ts (env.set i (some (.val t))) else none
  | _, _, _ => none
def bindT (fx : Nat → Bool) (tg : Tgt) (t : T) (env : Env) : Option Env :=
  match tg with
  | .name i => bindAll fx [i] [t] env
  | .tup is => match t with
    | .tup ts => bindAll fx is ts env
    | _ => none
def lcLoop (step : T → Env → Out (Option T)) : List T → List T → Env → Out (List T)
  | [], acc, env => .ok acc env
  | t :: ts, acc, env => (step t env).bind fun o e => match o with
    | some x => if acc.length < sizeLine then lcLoop step ts (acc ++ [x]) e else .stuck
    | none => lcLoop step ts acc e
def dcLoop (step : T → Env → Out (Option (Key × T))) : List T → List (Key × T) → Env → Out (List (Key × T))
  | [], acc, env => .ok acc env
  | t :: ts, acc, env => (step t env).bind fun o e => match o with
    | some kt => if acc.length < sizeLine then dcLoop step ts (putT acc kt.1 kt.2) e else .stuck
    | none => dcLoop step ts acc e
/-- keys and values by turns -/
def pairUp : List T → Option (List (Key × T))
  | [] => some []
  | k :: v :: r => (keyT k).bind fun k => (pairUp r).map ((k, v) :: ·)
  | _ => none
def mergeT (more : List (Key × T)) : List (Key × T) := more.foldl (fun acc kv => putT acc kv.1 kv.2) []
/-- an f-string's parts, one behind the other -/
def valsR : List R → Option (List T)
  | [] => some []
  | .val t :: rs => (valsR rs).map (t :: ·)
  | _ => none
def joinF : List T → Str → Option Str
  | [], acc => some acc
  | .int i :: ts, acc => if i.natAbs.log2 < 1920 ∧ (acc ++ (toString i : Str)).length ≤ sizeLine then joinF ts (acc ++ (toString i : Str)) else none
  | .str y :: ts, acc => if y.length ≤ sizeLine ∧ (acc ++ y).length ≤ sizeLine then joinF ts (acc ++ y) else none
  | _, _ => none
def noexc {α : Type} : Out α → Out α
  | .ok a e => .ok a e
  | _ => .stuck
def lockE (env : Env) : Option Nat → Env
  | none => env
  | some i => match env[i]? with | some (some (.own (.lst o))) => env.set i (some (.lck (.lst o))) | _ => env
def unlockE (env : Env) : Option Nat → Env
  | none => env
  | some i => match env[i]? with | some (some (.lck (.lst o))) => env.set i (some (.own (.lst o))) | _ => env
def lockOf (env : Env) : R → Option Nat
  | .loan i => match env[i]? with | some (some (.own (.lst _))) => some i | _ => none
  | _ => none
/-- a dict is locked, and set free -/
def lockD (env : Env) (i : Nat) : Env := match env[i]? with | some (some (.own (.dic o))) => env.set i (some (.lck (.dic o))) | _ => env
def isD (env : Env) (i : Nat) : Bool := match env[i]? with | some (some (.own (.dic _))) => true | _ => false
def unlockR {α : Type} (i : Nat) : Out α → Out α
  | .ok a e => match e[i]? with | some (some (.lck (.dic o))) => .ok a (e.set i (some (.own (.dic o)))) | _ => .stuck
  | .exc _ _ => .stuck
  | .stuck => .stuck
/-- the keys of a locked dict -/
def keysT (kts : List (Key × T)) : List T := kts.map fun kv => match kv.1 with | .inl i => .int i | .inr s => .str s
def dicOf (env : Env) : R → Option (List (Key × T))
  | .loan i => match env[i]? with | some (some (.lck (.dic kts))) => some kts | _ => none
  | _ => none
def rngT (lo : Int) (n : Nat) : List T := (List.range n).map fun (k : Nat) => T.int (lo + (k : Int))
/-- what is walked -/
def seqI : T → Option (List T)
  | .lst xs => some xs
  | .rlst xs => some xs
  | .tup xs => some xs
  | .str s => some (s.cps.toList.map fun c => T.str ⟨#[c]⟩)
  | _ => none
def zipT : List T → List T → List T
  | x :: xs, y :: ys => .tup [x, y] :: zipT xs ys
  | _, _ => []
/-- sorted by length, then by the items -/
def lexI : List Int → List Int → Bool
  | [], _ => true
  | _ :: _, [] => false
  | x :: xs, y :: ys => decide (x < y) || (decide (x = y) && lexI xs ys)
def leLF (a b : List Int) : Bool := decide (a.length < b.length) || (decide (a.length = b.length) && lexI a b)
def insLF (x : List Int) : List (List Int) → List (List Int)
  | [] => [x]
  | y :: ys => if leLF x y = true then x :: y :: ys else y :: insLF x ys
def sortLF (l : List (List Int)) : List (List Int) := l.foldr insLF []
def rowT (ns : List Int) : T := .tup (ns.map T.int)
def rowsI : List T → Option (List (List Int))
  | [] => some []
  | .tup ts :: r => (intsT ts).bind fun ns => (rowsI r).map (ns :: ·)
  | _ => none
def inRng (j : Int) : Bool := Nat.ble j.natAbs 4611686018427387903
theorem inRng_of {j : Int} (h : inRng j = true) : -(2 ^ 62) ≤ j ∧ j < 2 ^ 62 := by
  have := Nat.le_of_ble_eq_true h
  omega

/-- the caught exception, as it stands among the globals -/
def eK : Nat := 1000000
/-- a field set -/
def putO (k : Key) (t : T) : List (Key × T) → List (Key × T)
  | [] => [(k, t)]
  | p :: r => if p.1 = k then (p.1, t) :: r else p :: putO k t r
def kvT (fs : List (Str × T)) : List (Key × T) := fs.map fun p => (.inr p.1, p.2)
def encE (a : Addr) (nm : Str) (fs : List (Str × T)) : T := .tup [.adr a, .str nm, .dic (kvT fs)]
def setG (G : Nat → T) (e : T) : Nat → T := fun j => if j = eK then e else G j
/-- an argument list whose first object is made anew: it comes back as the result -/
def makeR (C : Nat → List Iv → Res) (f : Nat) (dfl : List T) (c : Str) (env : Env) (rs : List R) : Out R :=
  match argsOf env rs with
  | none => .stuck
  | some ivs => if (lent env rs).Nodup then
      match C f (.own (.obj c []) :: ivs ++ dfl.map Iv.val) with
      | .ok (.val .non) (.own o :: outs) => .ok (.new o) (back env rs outs)
      | .exc x (_ :: outs) => .exc x (back env rs outs)
      | _ => .stuck
    else .stuck
def methOf (m : Str) (ms : List (Str × Nat)) (t : Option T) : Option Nat := match t with
  | some (.obj nm kvs) => if (valT kvs (.inr m)).isNone = true then ms.lookup nm else none
  | _ => none
def IEs.len : IEs → Nat
  | .nil => 0
  | .cons _ es => es.len + 1
section
variable (C : Nat → List Iv → Res) (G : Nat → T) (D : Nat → Nat → List T)
mutual
def ev : IE → Env → Out R
  | .var i, env => match env[i]? with
    | some (some (.val t)) => .ok (.val t) env
    | some (some _) => .ok (.loan i) env
    | _ => .stuck
  | .mov i, env => match env[i]? with
    | some (some (.val t)) => .ok (.val t) env
    | some (some (.own o)) => .ok (.val (frz o)) (env.set i (some (.val (frz o))))
    | _ => .stuck
  | .non, env => .ok (.val .non) env
  | .bl b, env => .ok (.val (.bl b)) env
  | .int b, env => .ok (.val (.int b)) env
  | .str b, env => .ok (.val (.str b)) env
  | .glob j, env => .ok (.val (G j)) env
  | .bin op a b, env => (ev a env).bind fun ra e1 => (ev b e1).bind fun rb e2 => ofO ((lookT e2 ra).bind fun x => (lookT e2 rb).bind fun y => (binR op x y).map rvR) e2
  | .neg a, env => (ev a env).bind fun ra e1 => match ra with | .val (.int i) => .ok (.val (.int (-i))) e1 | _ => .stuck
  | .not a, env => (ev a env).bind fun ra e1 => match ra with | .val (.bl i) => .ok (.val (.bl (!i))) e1 | _ => .stuck
  | .and a b, env => (ev a env).bind fun ra e1 => match ra with | .val (.bl true) => ev b e1 | .val (.bl false) => .ok (.val (.bl false)) e1 | _ => .stuck
  | .or a b, env => (ev a env).bind fun ra e1 => match ra with | .val (.bl false) => ev b e1 | .val (.bl true) => .ok (.val (.bl true)) e1 | _ => .stuck
  | .cmp op a b, env => (ev a env).bind fun ra e1 => (ev b e1).bind fun rb e2 => ofO ((lookT e2 ra).bind fun x => (lookT e2 rb).bind fun y => (cmpR op x y).map fun b => R.val (.bl b)) e2
  | .chain op op' a b c, env => (ev a env).bind fun ra e1 => (ev b e1).bind fun rb e2 =>
      match ((lookT e2 ra).bind fun x => (lookT e2 rb).bind fun y => cmpR op x y) with
      | some true => (ev c e2).bind fun rc e3 => ofO ((lookT e3 rb).bind fun x => (lookT e3 rc).bind fun y => (cmpR op' x y).map fun b => R.val (.bl b)) e3
      | some false => .ok (.val (.bl false)) e2
      | none => .stuck
  | .ifx c a b, env => (evT c env).bind fun k e1 => if k then ev a e1 else ev b e1
  | .tup es, env => (evs es env).bind fun rs e1 => ofO ((escs e1 rs).bind fun ts => if ts.length ≤ sizeLine then some (R.val (.tup ts)) else none) e1
  | .lst es, env => (evs es env).bind fun rs e1 => ofO ((escs e1 rs).bind fun ts => if ts.length ≤ sizeLine then some (R.new (.lst ts)) else none) e1
  | .dnew, env => .ok (.new (.dic [])) env
  | .call f args, env => (evs args env).bind fun rs e1 => callR C f (D f args.len) e1 rs
  | .bi b args, env => (evs args env).bind fun rs e1 => ofO ((looks e1 rs).bind fun ts => (biR b ts).map rvR) e1
  | .isin a tys, env => (ev a env).bind fun ra e1 => ofO ((lookT e1 ra).bind fun t => if isDicT t then none else some (R.val (.bl (isinR t tys)))) e1
  | .ix a i, env => (ev a env).bind fun ra e1 => (ev i e1).bind fun ri e2 => ofO ((lookT e2 ra).bind fun x => (lookT e2 ri).bind fun y => (ixR x y).map R.val) e2
  | .sl a lo hi, env => (ev a env).bind fun ra e1 => (evO lo e1).bind fun rl e2 => (evO hi e2).bind fun rh e3 => ofO ((lookT e3 ra).bind fun x => (slR x rl rh).map rvR) e3
  | .met0 m o, env => (ev o env).bind fun ro e1 => match ro with | .val t => ofO ((met0R m t).map rvR) e1 | _ => .stuck
  | .met1 m o a, env => (ev o env).bind fun ro e1 => match ro with
    | .val (.str s) => (ev a e1).bind fun ra e2 => ofO ((lookT e2 ra).bind fun t => (met1R m s t).map rvR) e2
    | _ => .stuck
  | .dget2 o k x, env => (ev o env).bind fun ro e1 => match lookT e1 ro with
    | some (.dic _) => (ev k e1).bind fun rk e2 => (ev x e2).bind fun rx e3 => ofO (match lookT e3 ro, (lookT e3 rk).bind keyT, esc e3 rx with
      | some (.dic kts), some k, some t => some (R.val ((valT kts k).getD t))
      | _, _, _ => none) e3
    | _ => .stuck
  | .sortLF e, env => (ev e env).bind fun r e1 => ofO ((lookT e1 r).bind fun t => (seqL t).bind fun xs => (rowsI xs).bind fun bs => if bs.length ≤ sizeLine then some (R.new (.lst ((sortLF bs).map rowT))) else none) e1
  | .lc src tg cond elt own, env => (evSrc src env).bind fun it e1 =>
      (lcLoop (fun t e => match bindT (fun _ => false) tg t (wipeE e (own.map (·.2))) with
        | none => .stuck
        | some e2 => noexc ((evC cond e2).bind fun k e3 => if k then (ev elt e3).bind fun r e4 => ofO ((esc e4 r).map some) e4 else .ok none e3)) it.1 [] (lockE e1 it.2)).bind
        fun acc e5 => .ok (.new (.lst acc)) (unlockE (wipeE e5 (own.map (·.2))) it.2)
  | .dc src tg cond key val own, env => (evSrc src env).bind fun it e1 =>
      (dcLoop (fun t e => match bindT (fun _ => false) tg t (wipeE e (own.map (·.2))) with
        | none => .stuck
        | some e2 => noexc ((evC cond e2).bind fun k e3 => if k then (ev key e3).bind fun rk e4 => (ev val e4).bind fun rv e5 => ofO (((lookT e5 rk).bind keyT).bind fun k => (esc e5 rv).map fun t => some (k, t)) e5 else .ok none e3)) it.1 [] (lockE e1 it.2)).bind
        fun acc e5 => .ok (.new (.dic acc)) (unlockE (wipeE e5 (own.map (·.2))) it.2)
  | .lockd i e, env => if isD env i then unlockR i (ev e (lockD env i)) else ev e env
  | .disp es, env => (evs es env).bind fun rs e1 => ofO ((escs e1 rs).bind fun ts => (pairUp ts).bind fun kvs => if kvs.length ≤ 15 then some (R.new (.dic (mergeT kvs))) else none) e1
  | .fstr es, env => (noexc (evs es env)).bind fun rs e1 => ofO ((valsR rs).bind fun ts => (joinF ts Str.empty).map fun s => R.val (.str s)) e1
  | .efld e f, env => (ev e env).bind fun r e1 => match r, G eK with
    | .val (.adr a), .tup [.adr b, .str _, .dic kvs] => if a = b then ofO ((valT kvs (.inr f)).map R.val) e1 else .stuck
    | _, _ => .stuck
  | .eisin e yes, env => (ev e env).bind fun r e1 => match r, G eK with
    | .val (.adr a), .tup [.adr b, .str nm, .dic _] => if a = b then .ok (.val (.bl (yes.any fun y => decide (y = nm)))) e1 else .stuck
    | _, _ => .stuck
  | .ecall f e, env => (ev e env).bind fun r e1 => match r, G eK with
    | .val (.adr a), .tup [.adr b, .str nm, .dic kvs] => if a = b then (match C f [.val (.tup [.adr b, .str nm, .dic kvs])] with
        | .ok (.val t) _ => .ok (.val t) e1
        | _ => .stuck) else .stuck
    | _, _ => .stuck
  | .fld e f ns, env => (ev e env).bind fun r e1 => match lookT e1 r with
    | some (.obj nm kvs) => if ns.contains nm = true then ofO ((valT kvs (.inr f)).map R.val) e1 else .stuck
    | _ => .stuck
  | .meth m ms o args, env => (ev o env).bind fun r e1 => match methOf m ms (lookT e1 r) with
    | some f => (evs args e1).bind fun rs e2 => callR C f (D f (args.len + 1)) e2 (r :: rs)
    | none => .stuck
  | .make c f args, env => (evs args env).bind fun rs e1 => makeR C f (D f (args.len + 1)) c e1 rs
termination_by structural x => x
def evs : IEs → Env → Out (List R)
  | .nil, env => .ok [] env
  | .cons e es, env => (ev e env).bind fun r e1 => (evs es e1).bind fun rs e2 => .ok (r :: rs) e2
termination_by structural x => x
def evO : IO → Env → Out (Option Int)
  | .none, env => .ok none env
  | .some e, env => (ev e env).bind fun r e1 => match r with | .val (.int i) => .ok (some i) e1 | _ => .stuck
termination_by structural x => x
def evC : IBO → Env → Out Bool
  | .none, env => .ok true env
  | .some e, env => evT e env
termination_by structural x => x
def evSrc : Src → Env → Out (List T × Option Nat)
  | .seq e, env => (ev e env).bind fun r e1 => match dicOf e1 r with
    | some kts => .ok (keysT kts, none) e1
    | none => ofO ((lookT e1 r).bind fun t => (seqI t).map fun xs => (xs, lockOf e1 r)) e1
  | .rng1 e, env => (ev e env).bind fun r e1 => match r with
    | .val (.int j) => if inRng j then .ok (rngT 0 j.toNat, none) e1 else .stuck
    | _ => .stuck
  | .rng2 a b, env => (ev a env).bind fun r e1 => (ev b e1).bind fun r2 e2 => match r, r2 with
    | .val (.int i), .val (.int j) => if inRng i && inRng j then .ok (rngT i (j - i).toNat, none) e2 else .stuck
    | _, _ => .stuck
  | .zip a b, env => (ev a env).bind fun ra e1 => (ev b e1).bind fun rb e2 => ofO ((esc e2 ra).bind fun x => (esc e2 rb).bind fun y => match x, y with
    | .lst xs, .lst ys => some (zipT xs ys, none)
    | .rlst xs, .lst ys => some (zipT xs ys, none)
    | .tup xs, .tup ys => some (zipT xs ys, none)
    | _, _ => none) e2
termination_by structural x => x
def evT : IB → Env → Out Bool
  | .not a, env => (evT a env).bind fun k e1 => .ok (!k) e1
  | .and a b, env => (evT a env).bind fun k e1 => if k then evT b e1 else .ok false e1
  | .or a b, env => (evT a env).bind fun k e1 => if k then .ok true e1 else evT b e1
  | .val e, env => (ev e env).bind fun r e1 => ofO ((lookT e1 r).bind truR) e1
termination_by structural x => x
end
end
end G
namespace G
open PySem PySem.Spec PyProof.Rows L2

section
variable {K : PySem.W.Frag} {W : WX} {σ : L2.St} {env env1 env2 : Env} {H F H0 F0 H1 F1 H2 F2 : Hp} {fp fp1 fp2 : Nat → List Addr} {P0 P P1 P2 : Fp} {α β : Type}

theorem Tmp.nil : Tmp H0 P0 F P [] := fun a h => by simp at h
theorem fp_all {a : Addr} : (fpOf env fp).all a ↔ ∃ i, a ∈ fp i := Iff.rfl
theorem EnvR.notAll (E : EnvR K env σ H F fp) {p : Addr} (h : H p = none) : ¬ (fpOf env fp).all p := fun ⟨i, hi⟩ => E.here i p hi h
theorem EnvR.freeF (E : EnvR K env σ H F fp) {p : Addr} (h : H p = none) : F p = none := E.sub.free h
theorem Tmp.step {l : List Addr} (t : Tmp H0 P0 F P l) (s : Stp P H F P1 H1 F1) (h : ∀ a ∈ l, H a ≠ none) : Tmp H0 P0 F1 P1 l := fun a ha => by
  obtain ⟨h1, h2, h3⟩ := t a ha
  obtain ⟨_, g2, g3⟩ := s.fresh (h a ha) h2 h1
  exact ⟨g2, g3, h3⟩
theorem Tmp.base {l : List Addr} (t : Tmp H P F1 P1 l) (s : Stp P0 H0 F0 P H F) : Tmp H0 P0 F1 P1 l := fun a ha => by
  obtain ⟨h1, h2, h3⟩ := t a ha
  exact ⟨h1, h2, h3.elim (s.own a) s.back⟩
theorem RR.here {r : R} {v : V} {l : List Addr} (h : RR K σ H F r v l) : ∀ a ∈ l, H a ≠ none := by
  cases h with
  | val d => intro a ha; simp at ha
  | new d => exact d.here
  | loan d => intro a ha; simp at ha
theorem RR.step {r : R} {v : V} {l : List Addr} (h : RR K σ H F r v l) (t : Tmp H0 P0 F P l) (s : Stp P H F P1 H1 F1) : RR K σ H1 F1 r v l := by
  cases h with
  | val d => exact .val (d.mono s.fz)
  | new d => exact .new (d.keep (fun a ha => (s.fresh (d.here a ha) (t a ha).2.1 (t a ha).1).1) s.fz)
  | loan d => exact .loan d
theorem RRs.here {r : List R} {v : List V} {l : List Addr} (h : RRs K σ H F r v l) : ∀ a ∈ l, H a ≠ none := by
  induction h with
  | nil => intro a ha; simp at ha
  | cons h _ _ ih => intro a ha; rcases List.mem_append.mp ha with ha | ha; exact h.here a ha; exact ih a ha
theorem RRs.step {r : List R} {v : List V} {l : List Addr} (h : RRs K σ H F r v l) (t : Tmp H0 P0 F P l) (s : Stp P H F P1 H1 F1) : RRs K σ H1 F1 r v l := by
  induction h with
  | nil => exact .nil
  | cons h hs d ih => exact .cons (h.step (fun a ha => t a (List.mem_append_left _ ha)) s) (ih fun a ha => t a (List.mem_append_right _ ha)) d
theorem RR.vr {r : R} {v : V} {l : List Addr} {t : T} (h : RR K σ H F r v l) (E : EnvR K env σ H F fp) (e : lookT env r = some t) : VR K H F v t := by
  unfold lookT at e
  obtain ⟨iv, e1, rfl⟩ := Option.map_eq_some_iff.mp e
  obtain ⟨l', h'⟩ := h.look E e1
  exact h'.vr
/-- a new tracked object -/
theorem EnvR.alloc (E : EnvR K env σ H F fp) {p : Addr} {o : HO} (hp : H p = none) : EnvR K env σ (upd H p o) F fp := by
  have ne : ∀ i a, a ∈ fp i → a ≠ p := fun i a ha e => E.here i a ha (e ▸ hp)
  refine ⟨fun i iv e => ?_, E.out, E.dis, E.free, fun b x e => ?_, E.len⟩
  · obtain ⟨v, h1, h2⟩ := E.slot i iv e
    exact ⟨v, h1, h2.keep (fun a ha => upd_ne (ne i a ha)) (fun _ _ h => h)⟩
  · have h := E.sub b x e
    rw [upd_ne (ne_of_none h hp)]
    exact h
theorem EnvR.allocF (E : EnvR K env σ H F fp) {p : Addr} {o : HO} (hp : H p = none) : EnvR K env σ (upd H p o) (upd F p o) fp := by
  have ne : ∀ i a, a ∈ fp i → a ≠ p := fun i a ha e => E.here i a ha (e ▸ hp)
  have hF : F p = none := E.freeF hp
  have sF : Same F (upd F p o) := fun b x e => by rw [upd_ne (ne_of_none e hF)]; exact e
  refine ⟨fun i iv e => ?_, E.out, E.dis, fun i a ha => by rw [upd_ne (ne i a ha)]; exact E.free i a ha, fun b x e => ?_, E.len⟩
  · obtain ⟨v, h1, h2⟩ := E.slot i iv e
    exact ⟨v, h1, h2.keep (fun a ha => upd_ne (ne i a ha)) sF⟩
  · by_cases hb : b = p
    · subst hb; rw [upd_same] at e ⊢; exact e
    · rw [upd_ne hb] at e ⊢; exact E.sub b x e
theorem Stp.alloc (s : Stp P0 H0 F0 P H F) {p : Addr} {o : HO} (hp : H p = none) : Stp P0 H0 F0 P (upd H p o) F :=
  s.trans ⟨fun a x e _ => by rw [upd_ne (ne_of_none e hp)]; exact e, fun _ _ h => h, fun _ h => .inl h, fun _ h => .inl h, fun _ h => .inl h, fun _ _ h => h⟩
theorem Stp.allocF (s : Stp P0 H0 F0 P H F) {p : Addr} {o : HO} (hp : H p = none) (hF : F p = none) : Stp P0 H0 F0 P (upd H p o) (upd F p o) :=
  s.trans ⟨fun a x e _ => by rw [upd_ne (ne_of_none e hp)]; exact e, fun b x e => by rw [upd_ne (ne_of_none e hF)]; exact e,
    fun a h => by
      by_cases ha : a = p
      · subst ha; exact .inr (.inr hp)
      · rw [upd_ne ha] at h; exact .inl h, fun _ h => .inl h, fun _ h => .inl h, fun _ _ h => h⟩
/-- a temporary is frozen -/
theorem esc_ok {r : R} {v : V} {l : List Addr} {t : T} (h : RR K σ H F r v l) (E : EnvR K env σ H F fp) (tm : Tmp H0 P0 F (fpOf env fp) l) (s : Stp P0 H0 F0 (fpOf env fp) H F) (e : esc env r = some t) :
    ∃ F', Same F F' ∧ Den K F' v t ∧ EnvR K env σ H F' fp ∧ Stp P0 H0 F0 (fpOf env fp) H F' ∧ ∀ a, F' a ≠ none → F a ≠ none ∨ a ∈ l := by
  have fz : ∀ (a : Addr) (o : HO), H a = some o → l = [a] → Same F (upd F a o) ∧ EnvR K env σ H (upd F a o) fp ∧ Stp P0 H0 F0 (fpOf env fp) H (upd F a o) ∧ ∀ b, upd F a o b ≠ none → F b ≠ none ∨ b ∈ l := by
    intro a o ha hl
    obtain ⟨t1, t2, t3⟩ := tm a (by rw [hl]; simp)
    have ne : ∀ i b, b ∈ fp i → b ≠ a := fun i b hb e => t2 ⟨i, e ▸ hb⟩
    have sF : Same F (upd F a o) := fun b x e => by rw [upd_ne (ne_of_none e t1)]; exact e
    refine ⟨sF, ⟨fun i iv e => ?_, E.out, E.dis, fun i b hb => by rw [upd_ne (ne i b hb)]; exact E.free i b hb, fun b x e => ?_, E.len⟩, ⟨s.keep, s.fz.trans sF, fun b h => ?_, s.own, s.all, s.lk⟩, fun b h => ?_⟩
    · obtain ⟨v, h1, h2⟩ := E.slot i iv e
      exact ⟨v, h1, h2.keep (fun _ _ => rfl) sF⟩
    · by_cases hb : b = a
      · subst hb; rw [upd_same] at e; cases e; exact ha
      · rw [upd_ne hb] at e; exact E.sub b x e
    · by_cases hb : b = a
      · subst hb; exact t3.elim (fun z => .inr (.inl z)) fun z => .inr (.inr z)
      · rw [upd_ne hb] at h; exact s.nfz b h
    · by_cases hb : b = a
      · subst hb; exact .inr (by rw [hl]; simp)
      · rw [upd_ne hb] at h; exact .inl h
  cases h with
  | val d => simp [esc] at e; subst e; exact ⟨F, fun _ _ h => h, d, E, s, fun a h => .inl h⟩
  | @loan _ i h1 =>
    simp only [esc] at e
    split at e
    · rename_i t' h2
      cases e
      obtain ⟨v', e1, r⟩ := E.slot i _ h2
      rw [h1] at e1
      cases e1
      generalize fp i = li at r
      cases r with
      | val d => exact ⟨F, fun _ _ h => h, d, E, s, fun a h => .inl h⟩
    · simp at e
  | new d =>
    simp only [esc, Option.some.injEq] at e
    subst e
    cases d with
    | @lst a vs ts ha da =>
      obtain ⟨s1, E1, t1, n1⟩ := fz a _ ha rfl
      exact ⟨_, s1, .lst upd_same (da.mono s1), E1, t1, n1⟩
    | @dic a vs ts ha da =>
      obtain ⟨s1, E1, t1, n1⟩ := fz a _ ha rfl
      exact ⟨_, s1, .dic (.inl upd_same) (da.mono s1), E1, t1, n1⟩
    | @obj a C dx nm vs ts ha hc da =>
      obtain ⟨s1, E1, t1, n1⟩ := fz a _ ha rfl
      exact ⟨_, s1, .obj upd_same hc (da.mono s1), E1, t1, n1⟩
theorem escs_ok : ∀ {rs : List R} {vs : List V} {l : List Addr} {ts : List T} {F : Hp}, RRs K σ H F rs vs l → EnvR K env σ H F fp → Tmp H0 P0 F (fpOf env fp) l → Stp P0 H0 F0 (fpOf env fp) H F → escs env rs = some ts →
    ∃ F', Same F F' ∧ DenAll K F' vs ts ∧ EnvR K env σ H F' fp ∧ Stp P0 H0 F0 (fpOf env fp) H F'
  | _, _, _, _, F, .nil, E, tm, s, e => by simp [escs] at e; subst e; exact ⟨F, fun _ _ h => h, .nil, E, s⟩
  | _, _, _, ts, F, .cons (r := r) (rs := rs) (l := l) (ls := ls) h hs d, E, tm, s, e => by
    simp only [escs] at e
    cases e1 : esc env r with
    | none => rw [e1] at e; simp at e
    | some t =>
      cases e2 : escs env rs with
      | none => rw [e1, e2] at e; simp at e
      | some ts' =>
        rw [e1, e2] at e
        simp at e
        subst e
        obtain ⟨F1, s1, d1, E1, t1, n1⟩ := esc_ok h E (fun a ha => tm a (List.mem_append_left _ ha)) s e1
        have hs1 : ∀ {rs : List R} {vs : List V} {l : List Addr}, RRs K σ H F rs vs l → RRs K σ H F1 rs vs l := by
          intro rs vs l h
          induction h with
          | nil => exact .nil
          | cons h _ d ih =>
            refine .cons ?_ ih d
            cases h with
            | val q => exact .val (q.mono s1)
            | new q => exact .new (q.keep (fun _ _ => rfl) s1)
            | loan q => exact .loan q
        obtain ⟨F2, s2, d2, E2, t2⟩ := escs_ok (hs1 hs) E1 (fun a ha => by
          obtain ⟨g1, g2, g3⟩ := tm a (List.mem_append_right _ ha)
          refine ⟨?_, g2, g3⟩
          cases q : F1 a with
          | none => rfl
          | some o =>
            rcases n1 a (by rw [q]; simp) with z | z
            · exact absurd g1 z
            · exact absurd ha (d a z)) t1 e2
        exact ⟨F2, s1.trans s2, .cons (d1.mono s2) d2, E2, t2⟩
/-- the reading of a piece, then what follows -/
theorem tE_intro {m : Env → Out R} {f : R → Env → Out β} {Q0 : β → Env → Hp → Hp → (Nat → List Addr) → Prop} {Q : VK} (E : EnvR K env σ H F fp) (s : Stp P0 H0 F0 (fpOf env fp) H F) (h : ((m env).bind f).asks K W σ H0 F0 P0 Q0)
    (k : ∀ r env2 H2 F2 fp2 v l, EnvR K env2 σ H2 F2 fp2 → Stp (fpOf env fp) H F (fpOf env2 fp2) H2 F2 → RR K σ H2 F2 r v l → Tmp H (fpOf env fp) F2 (fpOf env2 fp2) l → (f r env2).asks K W σ H0 F0 P0 Q0 → Q v H2) : tE K W m σ H Q := by
  refine ⟨env, F, fp, E, ?_⟩
  cases e : m env with
  | stuck => rw [e] at h; exact h
  | exc x env' => rw [e] at h; exact fun cls d H' F' fp' E' t x => h cls d H' F' fp' E' (s.trans t) x
  | ok r env2 => rw [e] at h; exact fun H' F' fp' E' t v l rr tm => k r env2 H' F' fp' v l E' t rr tm h
theorem tB_intro {m : Env → Out Bool} {f : Bool → Env → Out β} {Q0 : β → Env → Hp → Hp → (Nat → List Addr) → Prop} {Q : Bool → Hp → Prop} (E : EnvR K env σ H F fp) (s : Stp P0 H0 F0 (fpOf env fp) H F) (h : ((m env).bind f).asks K W σ H0 F0 P0 Q0)
    (k : ∀ r env2 H2 F2 fp2, EnvR K env2 σ H2 F2 fp2 → Stp (fpOf env fp) H F (fpOf env2 fp2) H2 F2 → (f r env2).asks K W σ H0 F0 P0 Q0 → Q r H2) : G.tB K W m σ H Q := by
  refine ⟨env, F, fp, E, ?_⟩
  cases e : m env with
  | stuck => rw [e] at h; exact h
  | exc x env' => rw [e] at h; exact fun cls d H' F' fp' E' t x => h cls d H' F' fp' E' (s.trans t) x
  | ok r env2 => rw [e] at h; exact fun H' F' fp' E' t => k r env2 H' F' fp' E' t h
theorem tA_intro {m : Env → Out (List R)} {f : List R → Env → Out β} {Q0 : β → Env → Hp → Hp → (Nat → List Addr) → Prop} {Q : List V → Hp → Prop} (E : EnvR K env σ H F fp) (s : Stp P0 H0 F0 (fpOf env fp) H F) (h : ((m env).bind f).asks K W σ H0 F0 P0 Q0)
    (k : ∀ r env2 H2 F2 fp2 v l, EnvR K env2 σ H2 F2 fp2 → Stp (fpOf env fp) H F (fpOf env2 fp2) H2 F2 → RRs K σ H2 F2 r v l → Tmp H (fpOf env fp) F2 (fpOf env2 fp2) l → (f r env2).asks K W σ H0 F0 P0 Q0 → Q v H2) : tA K W m σ H Q := by
  refine ⟨env, F, fp, E, ?_⟩
  cases e : m env with
  | stuck => rw [e] at h; exact h
  | exc x env' => rw [e] at h; exact fun cls d H' F' fp' E' t x => h cls d H' F' fp' E' (s.trans t) x
  | ok r env2 => rw [e] at h; exact fun H' F' fp' E' t v l rr tm => k r env2 H' F' fp' v l E' t rr tm h
theorem ofO_asks {o : Option α} {Q : α → Env → Hp → Hp → (Nat → List Addr) → Prop} (h : (ofO o env).asks K W σ H0 F0 P0 Q) : ∃ a, o = some a ∧ (Out.ok a env).asks K W σ H0 F0 P0 Q := by
  cases o with
  | none => exact h.elim
  | some a => exact ⟨a, rfl, h⟩
abbrev Ask (K : PySem.W.Frag) (σ : L2.St) (H0 : Hp) (P0 : Fp) (Q : VK) : R → Env → Hp → Hp → (Nat → List Addr) → Prop := fun r env' H' F' fp' => ∀ v l, RR K σ H' F' r v l → Tmp H0 P0 F' (fpOf env' fp') l → Q v H'
/-- the end of a piece that hands back data -/
theorem rv_end {r : Rv} {Q : VK} (E : EnvR K env σ H F fp) (s : Stp P0 H0 F0 (fpOf env fp) H F) (q : (Out.ok (rvR r) env).asks K W σ H0 F0 P0 (Ask K σ H0 P0 Q)) : RvAt K H F Q r := by
  cases r with
  | val t => exact fun v d => q H F fp E s v [] (.val d) .nil
  | lst xs =>
    intro p vs hp d
    refine q _ _ fp (E.alloc hp) (s.alloc hp) (.ref p) [p] (.new (.lst upd_same d)) fun a ha => ?_
    simp at ha
    subst ha
    exact ⟨E.freeF hp, E.notAll hp, s.back hp⟩
  | tup xs =>
    refine ⟨fun p vs hp d => ?_, fun v d => q H F fp E s v [] (.val d) .nil⟩
    have hF := E.freeF hp
    have sF : Same F (upd F p (.tup vs)) := fun b x e => by rw [upd_ne (ne_of_none e hF)]; exact e
    exact q _ _ fp (E.allocF hp) (s.allocF hp hF) (.ref p) [] (.val (.tup (.inl (.inl upd_same)) (d.mono sF))) .nil
end
end G
namespace G
open PySem PySem.Spec PyProof.Rows L2

/-! # the rules of expressions -/
section
variable {X : Cx} {W : WX} {a b c : Expr} {ma mb mc : Env → Out R} {pos : Pos}

theorem se_var {i : Nat} {x : Str} (h : PE X (.Name x pos) (tVar i)) : PE X (.Name x pos) (tE X.K W fun env => match env[i]? with
    | some (some (.val t)) => .ok (.val t) env
    | some (some _) => .ok (.loan i) env
    | _ => .stuck) := by
  refine pe_imp h fun σ H Q ⟨env, F, fp, E, q⟩ => ?_
  cases e : env[i]? with
  | none => simp only [e] at q; exact q.elim
  | some iv =>
    cases iv with
    | none => simp only [e] at q; exact q.elim
    | some iv =>
      obtain ⟨v, h1, h2⟩ := E.slot i iv e
      refine ⟨v, h1, ?_⟩
      cases iv with
      | val t =>
        simp only [e] at q
        generalize fp i = li at h2
        cases h2 with
        | val d => exact q H F fp E Stp.refl v [] (.val d) .nil
      | own t => simp only [e] at q; exact q H F fp E Stp.refl v [] (.loan h1) .nil
      | lck t => simp only [e] at q; exact q H F fp E Stp.refl v [] (.loan h1) .nil
/-- a slot set in an environment -/
theorem get_set {env : Env} {i j : Nat} {x : Option Iv} {iv : Iv} (h : (env.set i x)[j]? = some (some iv)) : (i = j ∧ x = some iv ∧ i < env.length) ∨ (i ≠ j ∧ env[j]? = some (some iv)) := by
  rw [List.getElem?_set] at h
  split at h
  · split at h
    · rename_i h1 h2; cases h; exact .inl ⟨h1, rfl, h2⟩
    · cases h
  · rename_i h1; exact .inr ⟨h1, h⟩
theorem get_set_none {env : Env} {i j : Nat} {x : Option Iv} (h : ∀ iv, (env.set i x)[j]? ≠ some (some iv)) (hne : i ≠ j) : ∀ iv, env[j]? ≠ some (some iv) := fun iv e => h iv (by rw [List.getElem?_set_ne hne]; exact e)
theorem se_mov {i : Nat} {x : Str} (h : PE X (.Name x pos) (tVar i)) : PE X (.Name x pos) (tE X.K W fun env => match env[i]? with
    | some (some (.val t)) => .ok (.val t) env
    | some (some (.own o)) => .ok (.val (frz o)) (env.set i (some (.val (frz o))))
    | _ => .stuck) := by
  refine pe_imp h fun σ H Q ⟨env, F, fp, E, q⟩ => ?_
  cases e : env[i]? with
  | none => simp only [e] at q; exact q.elim
  | some iv =>
    cases iv with
    | none => simp only [e] at q; exact q.elim
    | some iv =>
      obtain ⟨v, h1, h2⟩ := E.slot i iv e
      refine ⟨v, h1, ?_⟩
      cases iv with
      | val t =>
        simp only [e] at q
        generalize fp i = li at h2
        cases h2 with
        | val d => exact q H F fp E Stp.refl v [] (.val d) .nil
      | lck t => simp only [e] at q; exact q.elim
      | own o =>
        simp only [e] at q
        have hi : i < env.length := (List.getElem?_eq_some_iff.mp e).1
        have key : ∀ (a : Addr) (ho : HO), fp i = [a] → H a = some ho → (∀ F', Same F F' → F' a = some ho → Den X.K F' v (frz o)) → Q v H := by
          intro a ho hl ha hd
          have hF : F a = none := E.free i a (by rw [hl]; simp)
          have sF : Same F (upd F a ho) := fun b x e => by rw [upd_ne (ne_of_none e hF)]; exact e
          have ne : ∀ j b, j ≠ i → b ∈ fp j → b ≠ a := fun j b hj hb z => hj (E.dis j i b hb (by rw [hl, z]; simp))
          refine q H (upd F a ho) (fun j => if j = i then [] else fp j) ⟨fun j iv ej => ?_, fun j hj => ?_, fun j k b hb hb' => ?_, fun j b hb => ?_, fun b x eb => ?_, by rw [List.length_set]; exact E.len⟩
            ⟨fun b x eb hn => eb, sF, fun b hb => ?_, fun b ⟨j, o', ej, hb⟩ => ?_, fun b ⟨j, hb⟩ => ?_, fun j b ⟨o', ej, hb⟩ => ?_⟩ v [] (.val (hd _ sF upd_same)) .nil
          · rcases get_set ej with ⟨rfl, h3, _⟩ | ⟨h3, h4⟩
            · cases h3
              refine ⟨v, h1, ?_⟩
              rw [if_pos rfl]
              exact .val (hd _ sF upd_same)
            · obtain ⟨w, g1, g2⟩ := E.slot j iv h4
              refine ⟨w, g1, ?_⟩
              rw [if_neg (Ne.symm h3)]
              exact g2.keep (fun _ _ => rfl) sF
          · by_cases hji : j = i
            · subst hji; simp
            · show (if j = i then [] else fp j) = []
              rw [if_neg hji]
              exact E.out j (get_set_none hj (Ne.symm hji))
          · have hb : b ∈ (if j = i then [] else fp j) := hb
            have hb' : b ∈ (if k = i then [] else fp k) := hb'
            split at hb
            · simp at hb
            · split at hb'
              · simp at hb'
              · exact E.dis j k b hb hb'
          · have hb : b ∈ (if j = i then [] else fp j) := hb
            split at hb
            · simp at hb
            · rename_i hji
              rw [upd_ne (ne j b hji hb)]
              exact E.free j b hb
          · by_cases hb : b = a
            · subst hb; rw [upd_same] at eb; cases eb; exact ha
            · rw [upd_ne hb] at eb; exact E.sub b x eb
          · by_cases hba : b = a
            · subst hba; exact .inr (.inl ⟨i, o, e, by rw [hl]; simp⟩)
            · rw [upd_ne hba] at hb; exact .inl hb
          · have hb : b ∈ (if j = i then [] else fp j) := hb
            split at hb
            · simp at hb
            · rename_i hji
              rcases get_set ej with ⟨h3, _⟩ | ⟨_, h4⟩
              · exact absurd h3.symm hji
              · exact .inl ⟨j, o', h4, hb⟩
          · have hb : b ∈ (if j = i then [] else fp j) := hb
            split at hb
            · simp at hb
            · exact .inl ⟨j, hb⟩
          · have hb : b ∈ (if j = i then [] else fp j) := hb
            split at hb
            · simp at hb
            · rename_i hji
              rcases get_set ej with ⟨h3, _⟩ | ⟨_, h4⟩
              · exact absurd h3.symm hji
              · exact ⟨o', h4, hb⟩
        generalize hl : fp i = li at h2
        cases h2 with
        | own h2 =>
          cases h2 with
          | @lst a vs ts ha da => exact key a _ hl ha fun F' s e => .lst e (da.mono s)
          | @dic a vs ts ha da => exact key a _ hl ha fun F' s e => .dic (.inl e) (da.mono s)
          | @obj a C dx nm vs ts ha hc da => exact key a _ hl ha fun F' s e => .obj e hc (da.mono s)
theorem se_con {v : V} {t : T} (h : PE X a (tC v)) (hd : ∀ F, Den X.K F v t) : PE X a (tE X.K W fun env => .ok (.val t) env) :=
  pe_imp h fun σ H Q ⟨env, F, fp, E, q⟩ => q H F fp E Stp.refl v [] (.val (hd F)) .nil
theorem se_bin {op : Operator} (ha : PE X a (tE X.K W ma)) (hb : PE X b (tE X.K W mb)) : PE X (.BinOp a op b pos)
    (tE X.K W fun env => (ma env).bind fun ra e1 => (mb e1).bind fun rb e2 => ofO ((lookT e2 ra).bind fun x => (lookT e2 rb).bind fun y => (binR op x y).map rvR) e2) := by
  refine pe_imp (pe_op (op_binR op) ha hb) fun σ H Q ⟨env, F, fp, E, q⟩ => ?_
  refine tE_intro E Stp.refl q fun ra e1 H1 F1 fp1 v l E1 s1 ra1 t1 q1 => ?_
  refine tE_intro E1 s1 q1 fun rb e2 H2 F2 fp2 w l2 E2 s2 rb2 t2 q2 => ?_
  obtain ⟨r, e, q3⟩ := ofO_asks q2
  simp only [Option.bind_eq_some_iff, Option.map_eq_some_iff] at e
  obtain ⟨x, ex, y, ey, rv, er, rfl⟩ := e
  exact ⟨F2, x, y, rv, E2.sub, (ra1.step t1 s2).vr E2 ex, rb2.vr E2 ey, er, rv_end E2 (s1.trans s2) q3⟩
theorem se_neg (ha : PE X a (tE X.K W ma)) : PE X (.UnaryOp .USub a pos)
    (tE X.K W fun env => (ma env).bind fun ra e1 => match ra with | .val (.int i) => .ok (.val (.int (-i))) e1 | _ => .stuck) := by
  refine pe_imp (pe_un un_neg ha) fun σ H Q ⟨env, F, fp, E, q⟩ => ?_
  refine tE_intro E Stp.refl q fun ra e1 H1 F1 fp1 v l E1 s1 ra1 t1 q1 => ?_
  cases ra1 with
  | val d =>
    cases d with
    | int i => exact ⟨i, rfl, q1 H1 F1 fp1 E1 s1 _ [] (.val (.int _)) .nil⟩
    | _ => exact q1.elim
  | _ => exact q1.elim
theorem se_not (ha : PE X a (tE X.K W ma)) : PE X (.UnaryOp .Not a pos)
    (tE X.K W fun env => (ma env).bind fun ra e1 => match ra with | .val (.bl i) => .ok (.val (.bl (!i))) e1 | _ => .stuck) := by
  refine pe_imp (pe_not ha) fun σ H Q ⟨env, F, fp, E, q⟩ => ?_
  refine tE_intro E Stp.refl q fun ra e1 H1 F1 fp1 v l E1 s1 ra1 t1 q1 => ?_
  cases ra1 with
  | val d =>
    cases d with
    | bl i => exact ⟨i, rfl, q1 H1 F1 fp1 E1 s1 _ [] (.val (.bl _)) .nil⟩
    | _ => exact q1.elim
  | _ => exact q1.elim
theorem se_and {rest : List Expr} (ha : PE X a (tE X.K W ma)) (hb : PE X (.BoolOp .And (b :: rest) pos) (tE X.K W mb)) : PE X (.BoolOp .And (a :: b :: rest) pos)
    (tE X.K W fun env => (ma env).bind fun ra e1 => match ra with | .val (.bl true) => mb e1 | .val (.bl false) => .ok (.val (.bl false)) e1 | _ => .stuck) := by
  refine pe_imp (pe_and ha hb) fun σ H Q ⟨env, F, fp, E, q⟩ => ?_
  refine tE_intro E Stp.refl q fun ra e1 H1 F1 fp1 v l E1 s1 ra1 t1 q1 => ?_
  cases ra1 with
  | val d =>
    cases d with
    | bl i =>
      refine ⟨i, rfl, ?_⟩
      cases i with
      | true =>
        rw [if_pos rfl]
        refine ⟨e1, F1, fp1, E1, Out.asks_mono s1 q1 fun r env' H' F' fp' E' s' q' v l rr tm => q' v l rr (tm.base s1)⟩
      | false =>
        rw [if_neg Bool.false_ne_true]
        exact q1 H1 F1 fp1 E1 s1 _ [] (.val (.bl _)) .nil
    | _ => exact q1.elim
  | _ => exact q1.elim
theorem se_or {rest : List Expr} (ha : PE X a (tE X.K W ma)) (hb : PE X (.BoolOp .Or (b :: rest) pos) (tE X.K W mb)) : PE X (.BoolOp .Or (a :: b :: rest) pos)
    (tE X.K W fun env => (ma env).bind fun ra e1 => match ra with | .val (.bl false) => mb e1 | .val (.bl true) => .ok (.val (.bl true)) e1 | _ => .stuck) := by
  refine pe_imp (pe_or ha hb) fun σ H Q ⟨env, F, fp, E, q⟩ => ?_
  refine tE_intro E Stp.refl q fun ra e1 H1 F1 fp1 v l E1 s1 ra1 t1 q1 => ?_
  cases ra1 with
  | val d =>
    cases d with
    | bl i =>
      refine ⟨i, rfl, ?_⟩
      cases i with
      | false =>
        rw [if_neg Bool.false_ne_true]
        refine ⟨e1, F1, fp1, E1, Out.asks_mono s1 q1 fun r env' H' F' fp' E' s' q' v l rr tm => q' v l rr (tm.base s1)⟩
      | true =>
        rw [if_pos rfl]
        exact q1 H1 F1 fp1 E1 s1 _ [] (.val (.bl _)) .nil
    | _ => exact q1.elim
  | _ => exact q1.elim
def mCmp (op : CmpOp) (ma mb : Env → Out R) : Env → Out R := fun env => (ma env).bind fun ra e1 => (mb e1).bind fun rb e2 => ofO ((lookT e2 ra).bind fun x => (lookT e2 rb).bind fun y => (cmpR op x y).map fun b => R.val (.bl b)) e2
theorem cmp_imp {op : CmpOp} {σ : L2.St} {H : Hp} {Q : VK} (h : tE X.K W (mCmp op ma mb) σ H Q) : tOp (rCmp X.K op) (tE X.K W ma) (tE X.K W mb) σ H Q := by
  obtain ⟨env, F, fp, E, q⟩ := h
  refine tE_intro E Stp.refl q fun ra e1 H1 F1 fp1 v l E1 s1 ra1 t1 q1 => ?_
  refine tE_intro E1 s1 q1 fun rb e2 H2 F2 fp2 w l2 E2 s2 rb2 t2 q2 => ?_
  obtain ⟨r, e, q3⟩ := ofO_asks q2
  simp only [Option.bind_eq_some_iff, Option.map_eq_some_iff] at e
  obtain ⟨x, ex, y, ey, k, er, rfl⟩ := e
  exact ⟨x, y, k, ((ra1.step t1 s2).vr E2 ex).den E2.sub, (rb2.vr E2 ey).den E2.sub, er, q3 H2 F2 fp2 E2 (s1.trans s2) _ [] (.val (.bl _)) .nil⟩
theorem se_cmp (hu : X.A.units + 65 < cLine) {op : CmpOp} (ha : PE X a (tE X.K W ma)) (hb : PE X b (tE X.K W mb)) (hm : behindInMarks op b = false) : PE X (.Compare a [op] [b] pos) (tE X.K W (mCmp op ma mb)) :=
  pe_imp (pe_cmpR (op_cmpR hu op) ha hb hm) fun _ _ _ => cmp_imp
def mChain (op op' : CmpOp) (ma mb mc : Env → Out R) : Env → Out R := fun env => (ma env).bind fun ra e1 => (mb e1).bind fun rb e2 =>
      match ((lookT e2 ra).bind fun x => (lookT e2 rb).bind fun y => cmpR op x y) with
      | some true => (mc e2).bind fun rc e3 => ofO ((lookT e3 rb).bind fun x => (lookT e3 rc).bind fun y => (cmpR op' x y).map fun b => R.val (.bl b)) e3
      | some false => .ok (.val (.bl false)) e2
      | none => .stuck
theorem chain_imp {op op' : CmpOp} {σ : L2.St} {H : Hp} {Q : VK} (h : tE X.K W (mChain op op' ma mb mc) σ H Q) : tChain (rCmp X.K op) (rCmp X.K op') (tE X.K W ma) (tE X.K W mb) (tE X.K W mc) σ H Q := by
  obtain ⟨env, F, fp, E, q⟩ := h
  refine tE_intro E Stp.refl q fun ra e1 H1 F1 fp1 v l E1 s1 ra1 t1 q1 => ?_
  refine tE_intro E1 s1 q1 fun rb e2 H2 F2 fp2 w l2 E2 s2 rb2 t2 q2 => ?_
  have ra2 := ra1.step t1 s2
  cases ek : ((lookT e2 ra).bind fun x => (lookT e2 rb).bind fun y => cmpR op x y) with
  | none => simp only [ek] at q2; exact q2.elim
  | some k =>
    have ek' := ek
    simp only [Option.bind_eq_some_iff] at ek'
    obtain ⟨x, ex, y, ey, er⟩ := ek'
    refine ⟨x, y, k, (ra2.vr E2 ex).den E2.sub, (rb2.vr E2 ey).den E2.sub, er, k, rfl, ?_⟩
    cases k with
    | false =>
      rw [if_neg Bool.false_ne_true]
      simp only [ek] at q2
      exact q2 H2 F2 fp2 E2 (s1.trans s2) _ [] (.val (.bl _)) .nil
    | true =>
      rw [if_pos rfl]
      simp only [ek] at q2
      refine tE_intro E2 (s1.trans s2) q2 fun rc e3 H3 F3 fp3 u l3 E3 s3 rc3 t3 q3 => ?_
      obtain ⟨r, e, q4⟩ := ofO_asks q3
      simp only [Option.bind_eq_some_iff, Option.map_eq_some_iff] at e
      obtain ⟨x', ex', y', ey', k', er', rfl⟩ := e
      exact ⟨x', y', k', ((rb2.step t2 s3).vr E3 ex').den E3.sub, (rc3.vr E3 ey').den E3.sub, er', q4 H3 F3 fp3 E3 ((s1.trans s2).trans s3) _ [] (.val (.bl _)) .nil⟩
theorem marks2 {op op' : CmpOp} (hm : behindInMarks op' c = false) : lastMarks [op, op'] [b, c] = false := hm
theorem se_chain (hu : X.A.units + 65 < cLine) {op op' : CmpOp} (ha : PE X a (tE X.K W ma)) (hb : PE X b (tE X.K W mb)) (hc : PE X c (tE X.K W mc)) (hm : behindInMarks op' c = false) :
    PE X (.Compare a [op, op'] [b, c] pos) (tE X.K W (mChain op op' ma mb mc)) :=
  pe_imp (pe_chain (op_cmpR hu op) (op_cmpR hu op') ha hb hc (marks2 hm)) fun _ _ _ => chain_imp
theorem se_ifx {k : Env → Out Bool} (hc : PT X c (G.tB X.K W k)) (ha : PE X a (tE X.K W ma)) (hb : PE X b (tE X.K W mb)) : PE X (.IfExp c a b pos)
    (tE X.K W fun env => (k env).bind fun k e1 => if k then ma e1 else mb e1) := by
  refine pe_imp (pe_ifExp hc ha hb) fun σ H Q ⟨env, F, fp, E, q⟩ => ?_
  refine tB_intro E Stp.refl q fun k e1 H1 F1 fp1 E1 s1 q1 => ?_
  cases k with
  | true =>
    rw [if_pos rfl] at q1 ⊢
    exact ⟨e1, F1, fp1, E1, Out.asks_mono s1 q1 fun r env' H' F' fp' E' s' q' v l rr tm => q' v l rr (tm.base s1)⟩
  | false =>
    rw [if_neg Bool.false_ne_true] at q1 ⊢
    exact ⟨e1, F1, fp1, E1, Out.asks_mono s1 q1 fun r env' H' F' fp' E' s' q' v l rr tm => q' v l rr (tm.base s1)⟩
theorem sa_nil : PA X [] (tA X.K W fun env => .ok [] env) := pa_imp pa_nil fun σ H Q ⟨env, F, fp, E, q⟩ => q H F fp E Stp.refl [] [] .nil .nil
theorem sa_cons {es : List Expr} {ms : Env → Out (List R)} (ha : PE X a (tE X.K W ma)) (hs : PA X es (tA X.K W ms)) (hst : ∀ e p, a ≠ .Starred e p) : PA X (a :: es)
    (tA X.K W fun env => (ma env).bind fun r e1 => (ms e1).bind fun rs e2 => .ok (r :: rs) e2) := by
  refine pa_imp (pa_cons ha hs (by cases a <;> first | rfl | exact absurd rfl (hst _ _))) fun σ H Q ⟨env, F, fp, E, q⟩ => ?_
  refine tE_intro E Stp.refl q fun ra e1 H1 F1 fp1 v l E1 s1 ra1 t1 q1 => ?_
  refine tA_intro E1 s1 q1 fun rs e2 H2 F2 fp2 vs ls E2 s2 rs2 t2 q2 => ?_
  refine q2 H2 F2 fp2 E2 (s1.trans s2) (v :: vs) (l ++ ls) (.cons (ra1.step t1 s2) rs2 fun x hx hx' => ?_) fun x hx => ?_
  · rcases (t2 x hx').2.2 with z | z
    · exact (t1 x hx).2.1 ((fpOf e1 fp1).sub x z)
    · exact ra1.here x hx z
  · rcases List.mem_append.mp hx with hx | hx
    · exact (t1.step s2 ra1.here) x hx
    · exact (t2.base s1) x hx
theorem DenAll.len {K : PySem.W.Frag} {F : Hp} {vs : List V} {ts : List T} (d : DenAll K F vs ts) (h : ts.length ≤ sizeLine) : vs.length ≤ sizeLine := by rw [d.length]; exact h
theorem se_tup {es : List Expr} {k : Nat} {ms : Env → Out (List R)} (hs : PA X es (tA X.K W ms)) : PE X (.Tuple es k pos)
    (tE X.K W fun env => (ms env).bind fun rs e1 => ofO ((escs e1 rs).bind fun ts => if ts.length ≤ sizeLine then some (R.val (.tup ts)) else none) e1) := by
  refine pe_imp (pe_tup hs) fun σ H Q ⟨env, F, fp, E, q⟩ => ?_
  refine tA_intro E Stp.refl q fun rs e1 H1 F1 fp1 vs l E1 s1 rs1 t1 q1 => ?_
  obtain ⟨r, e, q2⟩ := ofO_asks q1
  simp only [Option.bind_eq_some_iff] at e
  obtain ⟨ts, e1', e2⟩ := e
  split at e2
  · rename_i hz
    cases e2
    obtain ⟨F2, sF, d, E2, s2⟩ := escs_ok rs1 E1 t1 s1 e1'
    refine ⟨d.len hz, fun p hp => ?_⟩
    have hF := E2.freeF hp
    have sF2 : Same F2 (upd F2 p (.tup vs)) := fun b x e => by rw [upd_ne (ne_of_none e hF)]; exact e
    exact q2 _ _ fp1 (E2.allocF hp) (s2.allocF hp hF) _ [] (.val (.tup (.inl (.inl upd_same)) (d.mono sF2))) .nil
  · cases e2
theorem se_lst {es : List Expr} {ms : Env → Out (List R)} (hs : PA X es (tA X.K W ms)) : PE X (.List es pos)
    (tE X.K W fun env => (ms env).bind fun rs e1 => ofO ((escs e1 rs).bind fun ts => if ts.length ≤ sizeLine then some (R.new (.lst ts)) else none) e1) := by
  refine pe_imp (pe_lst hs) fun σ H Q ⟨env, F, fp, E, q⟩ => ?_
  refine tA_intro E Stp.refl q fun rs e1 H1 F1 fp1 vs l E1 s1 rs1 t1 q1 => ?_
  obtain ⟨r, e, q2⟩ := ofO_asks q1
  simp only [Option.bind_eq_some_iff] at e
  obtain ⟨ts, e1', e2⟩ := e
  split at e2
  · rename_i hz
    cases e2
    obtain ⟨F2, sF, d, E2, s2⟩ := escs_ok rs1 E1 t1 s1 e1'
    refine ⟨d.len hz, fun p hp => ?_⟩
    refine q2 _ _ fp1 (E2.alloc hp) (s2.alloc hp) _ [p] (.new (.lst upd_same d)) fun a ha => ?_
    simp at ha
    subst ha
    exact ⟨E2.freeF hp, E2.notAll hp, s2.back hp⟩
  · cases e2
theorem se_dnew : PE X (.Dict [] [] pos) (tE X.K W fun env => .ok (.new (.dic [])) env) := by
  refine pe_imp pe_dnewK fun σ H Q ⟨env, F, fp, E, q⟩ => fun p hp => ?_
  refine q _ _ fp (E.alloc hp) (Stp.refl.alloc hp) _ [p] (.new (.dic upd_same .nil)) fun a ha => ?_
  simp at ha
  subst ha
  exact ⟨E.freeF hp, E.notAll hp, .inr hp⟩
theorem se_ix (hu : X.A.units + 1 < cLine) (ha : PE X a (tE X.K W ma)) (hb : PE X b (tE X.K W mb)) (hs : PlainIx b) : PE X (.Subscript a b pos)
    (tE X.K W fun env => (ma env).bind fun ra e1 => (mb e1).bind fun ri e2 => ofO ((lookT e2 ra).bind fun x => (lookT e2 ri).bind fun y => (ixR x y).map R.val) e2) := by
  refine pe_imp (pe_ix (ix_R hu) ha hb hs) fun σ H Q ⟨env, F, fp, E, q⟩ => ?_
  refine tE_intro E Stp.refl q fun ra e1 H1 F1 fp1 v l E1 s1 ra1 t1 q1 => ?_
  refine tE_intro E1 s1 q1 fun rb e2 H2 F2 fp2 w l2 E2 s2 rb2 t2 q2 => ?_
  obtain ⟨r, e, q3⟩ := ofO_asks q2
  simp only [Option.bind_eq_some_iff, Option.map_eq_some_iff] at e
  obtain ⟨x, ex, y, ey, t, er, rfl⟩ := e
  exact ⟨F2, x, y, t, E2.sub, (ra1.step t1 s2).vr E2 ex, (rb2.vr E2 ey).den E2.sub, er, fun u d => q3 H2 F2 fp2 E2 (s1.trans s2) u [] (.val d) .nil⟩
end
end G
namespace G
open PySem PySem.Spec PyProof.Rows L2

/-! # rows of values that are read -/
inductive VRs (K : PySem.W.Frag) (H F : Hp) : List V → List T → Prop
  | nil : VRs K H F [] []
  | cons {v : V} {vs : List V} {t : T} {ts : List T} : VR K H F v t → VRs K H F vs ts → VRs K H F (v :: vs) (t :: ts)
section
variable {K : PySem.W.Frag} {W : WX} {σ : L2.St} {env : Env} {H F : Hp} {fp : Nat → List Addr}
theorem RRs.vrs : ∀ {rs : List R} {vs : List V} {l : List Addr} {ts : List T}, RRs K σ H F rs vs l → EnvR K env σ H F fp → looks env rs = some ts → VRs K H F vs ts
  | _, _, _, _, .nil, E, e => by simp [looks] at e; subst e; exact .nil
  | _, _, _, ts, .cons (r := r) (rs := rs) h hs d, E, e => by
    simp only [looks] at e
    cases e1 : lookT env r with
    | none => rw [e1] at e; simp at e
    | some t =>
      cases e2 : looks env rs with
      | none => rw [e1, e2] at e; simp at e
      | some ts' =>
        rw [e1, e2] at e
        simp at e
        subst e
        exact .cons (h.vr E e1) (RRs.vrs hs E e2)
theorem VR.seqL {v : V} {t : T} {xs : List T} (s : Same F H) (h : VR K H F v t) (e : seqL t = some xs) : ∃ a vs, v = .ref a ∧ SqL K H a vs ∧ DenAll K F vs xs := by
  cases t <;> simp [G.seqL] at e
  · subst e; obtain ⟨a, vs, e, h, d⟩ := h.lstF s; exact ⟨a, vs, e, .inl (.inl h), d⟩
  · subst e; exact h.rlstF s
theorem VR.seqA {v : V} {t : T} {xs : List T} (s : Same F H) (h : VR K H F v t) (e : seqA t = some xs) : ∃ a vs, v = .ref a ∧ (SqL K H a vs ∨ SqT K H a vs) ∧ DenAll K F vs xs := by
  cases t <;> simp [G.seqA] at e
  · subst e; obtain ⟨a, vs, e, h, d⟩ := h.tupF.tup'; exact ⟨a, vs, e, .inr (same_t s h), d⟩
  · subst e; obtain ⟨a, vs, e, h, d⟩ := h.lstF s; exact ⟨a, vs, e, .inl (.inl (.inl h)), d⟩
  · subst e; obtain ⟨a, vs, e, h, d⟩ := h.rlstF s; exact ⟨a, vs, e, .inl h, d⟩
theorem intsT_den : ∀ {vs : List V} {ts : List T} {ns : List Int}, DenAll K F vs ts → intsT ts = some ns → vs = ns.map V.int
  | _, _, _, .nil, e => by simp [intsT] at e; subst e; rfl
  | _, _, _, .cons (t := t) d ds, e => by
    cases t <;> simp [intsT] at e
    obtain ⟨ns, e1, rfl⟩ := e
    rw [d.is_int, intsT_den ds e1]; rfl
theorem strsT_den : ∀ {vs : List V} {ts : List T} {ns : List Str}, DenAll K F vs ts → strsT ts = some ns → vs = ns.map V.str
  | _, _, _, .nil, e => by simp [strsT] at e; subst e; rfl
  | _, _, _, .cons (t := t) d ds, e => by
    cases t <;> simp [strsT] at e
    obtain ⟨ns, e1, rfl⟩ := e
    rw [d.is_str, strsT_den ds e1]; rfl
theorem blsT_den : ∀ {vs : List V} {ts : List T} {ns : List Bool}, DenAll K F vs ts → blsT ts = some ns → vs = ns.map V.bl
  | _, _, _, .nil, e => by simp [blsT] at e; subst e; rfl
  | _, _, _, .cons (t := t) d ds, e => by
    cases t <;> simp [blsT] at e
    obtain ⟨ns, e1, rfl⟩ := e
    rw [d.is_bl, blsT_den ds e1]; rfl
end

/-! # sorted rows -/
theorem insS_perm (x : Str) : ∀ l : List Str, (insS x l).Perm (x :: l)
  | [] => .refl _
  | y :: ys => by
    unfold insS
    split
    · exact .refl _
    · exact (List.Perm.cons y (insS_perm x ys)).trans (List.Perm.swap x y ys)
theorem sortS_perm : ∀ l : List Str, (sortS l).Perm l
  | [] => .refl _
  | x :: l => (insS_perm x _).trans ((sortS_perm l).cons x)
theorem insI_perm (x : Int) : ∀ l : List Int, (insI x l).Perm (x :: l)
  | [] => .refl _
  | y :: ys => by
    unfold insI
    split
    · exact .refl _
    · exact (List.Perm.cons y (insI_perm x ys)).trans (List.Perm.swap x y ys)
theorem sortI_perm : ∀ l : List Int, (sortI l).Perm l
  | [] => .refl _
  | x :: l => (insI_perm x _).trans ((sortI_perm l).cons x)
theorem insI_srt (x : Int) : ∀ l : List Int, l.Pairwise (· ≤ ·) → (insI x l).Pairwise (· ≤ ·)
  | [], _ => by simp [insI]
  | y :: ys, h => by
    unfold insI
    split
    · rename_i hxy
      refine List.pairwise_cons.mpr ⟨fun z hz => ?_, h⟩
      rcases List.mem_cons.mp hz with rfl | hz
      · exact hxy
      · have := (List.pairwise_cons.mp h).1 z hz; omega
    · rename_i hxy
      refine List.pairwise_cons.mpr ⟨fun z hz => ?_, insI_srt x ys (List.pairwise_cons.mp h).2⟩
      rcases List.mem_cons.mp ((insI_perm x ys).mem_iff.mp hz) with rfl | hz
      · omega
      · exact (List.pairwise_cons.mp h).1 z hz
theorem sortI_srt : ∀ l : List Int, (sortI l).Pairwise (· ≤ ·)
  | [] => .nil
  | x :: l => insI_srt x _ (sortI_srt l)
abbrev leS (x y : Str) : Prop := ¬ y.cps.toList < x.cps.toList
theorem leS_trans {x y z : Str} (h : leS x y) (k : leS y z) : leS x z := by
  unfold leS at *
  exact List.not_lt.mpr (List.le_trans (List.not_lt.mp h) (List.not_lt.mp k))
theorem leS_anti {x y : Str} (h : leS x y) (k : leS y x) : x = y := by
  have e : x.cps.toList = y.cps.toList := List.le_antisymm (List.not_lt.mp h) (List.not_lt.mp k)
  cases x; cases y
  simp only [Str.mk.injEq]
  exact Array.toList_inj.mp e
theorem insS_srt (x : Str) : ∀ l : List Str, l.Pairwise leS → (insS x l).Pairwise leS
  | [], _ => by simp [insS]
  | y :: ys, h => by
    unfold insS
    split
    · rename_i hxy
      have hxy' : leS x y := fun q => List.lt_irrefl _ (List.lt_trans q hxy)
      refine List.pairwise_cons.mpr ⟨fun z hz => ?_, h⟩
      rcases List.mem_cons.mp hz with rfl | hz
      · exact hxy'
      · exact leS_trans hxy' ((List.pairwise_cons.mp h).1 z hz)
    · rename_i hxy
      refine List.pairwise_cons.mpr ⟨fun z hz => ?_, insS_srt x ys (List.pairwise_cons.mp h).2⟩
      rcases List.mem_cons.mp ((insS_perm x ys).mem_iff.mp hz) with rfl | hz
      · exact hxy
      · exact (List.pairwise_cons.mp h).1 z hz
theorem sortS_srt : ∀ l : List Str, (sortS l).Pairwise leS
  | [] => .nil
  | x :: l => insS_srt x _ (sortS_srt l)
theorem rising_leS : ∀ (l : List Str) (x : Str), risingS x l = true → (x :: l).Pairwise leS
  | [], x, _ => by simp
  | y :: l, x, h => by
    simp only [risingS, Bool.and_eq_true, Bool.not_eq_true', ltCps_eq, decide_eq_false_iff_not] at h
    have ih := rising_leS l y h.2
    refine List.pairwise_cons.mpr ⟨fun z hz => ?_, ih⟩
    rcases List.mem_cons.mp hz with rfl | hz
    · exact h.1
    · exact leS_trans h.1 ((List.pairwise_cons.mp ih).1 z hz)
theorem sortS_eq {xs ys : List Str} (p : ys.Perm xs) (h : sortedS ys = true) : ys = sortS xs := by
  have h' : ys.Pairwise leS := by
    cases ys with
    | nil => exact .nil
    | cons y l => exact rising_leS l y h
  exact List.Perm.eq_of_pairwise (fun a b _ _ h k => leS_anti h k) h' (sortS_srt xs) (p.trans (sortS_perm xs).symm)
theorem sortI_eq {xs ys : List Int} (p : ys.Perm xs) (h : ys.Pairwise (· ≤ ·)) : ys = sortI xs :=
  List.Perm.eq_of_pairwise (fun a b _ _ h k => Int.le_antisymm h k) h (sortI_srt xs) (p.trans (sortI_perm xs).symm)

/-! # built-ins by values -/
def rBI (K : PySem.W.Frag) (b : BI) : List V → Hp → VK → Prop := fun vs H Q => ∃ F ts r, Same F H ∧ VRs K H F vs ts ∧ biR b ts = some r ∧ RvAt K H F Q r
def biVal : BI → Value
  | .len => .builtin "len" | .int => .type "int" | .abs => .builtin "abs" | .str => .type "str" | .list => .type "list" | .tuple => .type "tuple"
  | .max2 => .builtin "max" | .min2 => .builtin "min" | .all => .builtin "all" | .gcd => .builtin "math.gcd" | .repr => .builtin "repr" | .sortedS => .builtin "sorted" | .bool => .type "bool"
  | .sum => .builtin "sum" | .sortedI => .builtin "sorted" | .sorted => .builtin "sorted"
section
variable {X : Cx}
theorem vrs1 {K : PySem.W.Frag} {H F : Hp} {vs : List V} {t : T} (h : VRs K H F vs [t]) : ∃ v, vs = [v] ∧ VR K H F v t := by
  cases h with | cons h hs => cases hs; exact ⟨_, rfl, h⟩
theorem vrs2 {K : PySem.W.Frag} {H F : Hp} {vs : List V} {t u : T} (h : VRs K H F vs [t, u]) : ∃ v w, vs = [v, w] ∧ VR K H F v t ∧ VR K H F w u := by
  cases h with | cons h hs => cases hs with | cons h' hs => cases hs; exact ⟨_, _, rfl, h, h'⟩
theorem VR.is_int {K : PySem.W.Frag} {H F : Hp} {v : V} {i : Int} (h : VR K H F v (.int i)) : v = .int i := by cases h with | fz d => exact d.is_int
theorem VR.is_str {K : PySem.W.Frag} {H F : Hp} {v : V} {i : Str} (h : VR K H F v (.str i)) : v = .str i := by cases h with | fz d => exact d.is_str
theorem VR.is_bl {K : PySem.W.Frag} {H F : Hp} {v : V} {i : Bool} (h : VR K H F v (.bl i)) : v = .bl i := by cases h with | fz d => exact d.is_bl
theorem cr_len : CallR X (biVal .len) (rBI X.K .len) := by
  intro pins s σ H xs us Q I r h
  obtain ⟨F, ts, rv, hs, vr, e, q⟩ := h
  match ts, e with
  | [t], e =>
    obtain ⟨v, rfl, d⟩ := vrs1 vr
    simp only [biR, Option.map_eq_some_iff] at e
    obtain ⟨n, en, rfl⟩ := e
    have seq : ∀ {xs : List T}, seqA t = some xs → n = xs.length → wpAny (model X.prog X.w) X.A (call (biVal .len) us) (EP X pins σ Q) X.xe s := by
      intro xs es el
      obtain ⟨a, vs, rfl, ha, da⟩ := d.seqA hs es
      refine call_len_seq pins s σ H _ us Q I r ⟨a, vs, rfl, ha, ?_⟩
      rw [da.length, ← el]
      exact q _ (.int _)
    cases t with
    | str y =>
      simp only [lenR] at en
      split at en
      · cases en
        exact call_len_str pins s σ H _ us Q I r ⟨y, by rw [d.is_str], by assumption, q _ (.int _)⟩
      · cases en
    | lst xs => simp only [lenR, Option.some.injEq] at en; exact seq rfl en.symm
    | rlst xs => simp only [lenR, Option.some.injEq] at en; exact seq rfl en.symm
    | tup xs => simp only [lenR, Option.some.injEq] at en; exact seq rfl en.symm
    | _ => simp [lenR] at en
theorem vals_of_get : ∀ {vs : List V} {us : List Value}, vs.length = us.length → (∀ (j : Nat) (v : V) (u : Value), vs[j]? = some v → us[j]? = some u → RelV v u) → Vals vs us
  | [], [], _, _ => .nil
  | v :: vs, u :: us, hl, h => .cons (h 0 v u rfl rfl) (vals_of_get (by simpa using hl) fun j a b e1 e2 => h (j + 1) a b (by simpa using e1) (by simpa using e2))
  | [], _ :: _, hl, _ => by simp at hl
  | _ :: _, [], hl, _ => by simp at hl
/-- list(text) -/
theorem cr_list_str (hc : X.calm = true) (x : Str) (hx : x.length ≤ 100000) (pins : List (Addr × Obj)) (s : Shared) (σ : L2.St) (H : Hp) (us : List Value) (Q : VK) (I : Inv X pins σ H s) (r : Vals [V.str x] us)
    (q : ∀ p vs, H p = none → DenAll X.K F vs (x.cps.toList.map fun c => T.str ⟨#[c]⟩) → Q (.ref p) (upd H p (.lst vs))) : wpAny (model X.prog X.w) X.A (call (.type "list") us) (EP X pins σ Q) X.xe s := by
  cases r with
  | cons r1 r2 =>
  cases r2
  obtain ⟨t, rfl⟩ := r1
  refine call_list_str (I.ok.hd hc) x t (fun h' tk acc' c' kp e hi => ?_) (Nat.le_trans hx (by decide))
  have hv : Vals (x.cps.toList.map fun c => V.str ⟨#[c]⟩) acc'.toList := by
    obtain ⟨h1, h2⟩ := hi
    refine vals_of_get (by simp [h1]) fun j v u e1 e2 => ?_
    rw [List.getElem?_map] at e1
    obtain ⟨c, ec, rfl⟩ := Option.map_eq_some_iff.mp e1
    obtain ⟨c', u', e3, rfl⟩ := h2 j u (by simpa using e2)
    have : x.cps.toList[j]? = some c' := by simpa using e3
    rw [ec] at this
    cases this
    exact ⟨_, rfl⟩
  have dv : DenAll X.K F (x.cps.toList.map fun c => V.str ⟨#[c]⟩) (x.cps.toList.map fun c => T.str ⟨#[c]⟩) := by
    induction x.cps.toList with
    | nil => exact .nil
    | cons c l ih => exact .cons (.str _) ih
  refine ⟨.ref s.heap.objs.size, _, I.laid (t' := tk) kp (Nat.le_refl _) (show ObjOk X.prog X.w _ h' _ (.lst (x.cps.toList.map fun c => V.str ⟨#[c]⟩)) from ⟨?_, acc'.toList, c', hv, by simpa using e⟩), rfl, q _ _ (I.hok.fresh (Nat.le_refl _)) dv⟩
  rw [List.length_map, Array.length_toList]
  exact Nat.le_trans hx (by decide)
theorem cr_BI0 (hc : X.calm = true) (b : BI) (hb : b ≠ .repr) (hb2 : b ≠ .sorted) : CallR X (biVal b) (rBI X.K b) := by
  cases b with
  | sorted => exact absurd rfl hb2
  | len => exact cr_len
  | repr => exact absurd rfl hb
  | int =>
    intro pins s σ H xs us Q I r h
    obtain ⟨F, ts, rv, hs, vr, e, q⟩ := h
    match ts, e with
    | [.int i], e =>
      obtain ⟨v, rfl, d⟩ := vrs1 vr
      cases e
      exact call_int1 pins s σ H _ us Q I r (.inl ⟨i, by rw [d.is_int], q _ (.int _)⟩)
    | [.bl i], e =>
      obtain ⟨v, rfl, d⟩ := vrs1 vr
      cases e
      exact call_int1 pins s σ H _ us Q I r (.inr ⟨i, by rw [d.is_bl], q _ (.int _)⟩)
    | [.str i], e =>
      obtain ⟨v, rfl, d⟩ := vrs1 vr
      simp only [biR] at e
      split at e
      · rename_i hz
        obtain ⟨n, hn, rfl⟩ := Option.map_eq_some_iff.mp e
        exact call_int_str pins s σ H _ us Q I r ⟨i, n, by rw [d.is_str], hn, hz, q _ (.int _)⟩
      · cases e
  | bool =>
    intro pins s σ H xs us Q I r h
    obtain ⟨F, ts, rv, hs, vr, e, q⟩ := h
    match ts, e with
    | [.int i], e =>
      obtain ⟨v, rfl, d⟩ := vrs1 vr
      cases e
      exact call_bool1 pins s σ H _ us Q I r (.inl ⟨i, by rw [d.is_int], q _ (.bl _)⟩)
    | [.bl i], e =>
      obtain ⟨v, rfl, d⟩ := vrs1 vr
      cases e
      exact call_bool1 pins s σ H _ us Q I r (.inr ⟨i, by rw [d.is_bl], q _ (.bl _)⟩)
  | abs =>
    intro pins s σ H xs us Q I r h
    obtain ⟨F, ts, rv, hs, vr, e, q⟩ := h
    match ts, e with
    | [.int i], e =>
      obtain ⟨v, rfl, d⟩ := vrs1 vr
      cases e
      exact call_abs pins s σ H _ us Q I r ⟨i, by rw [d.is_int], q _ (.int _)⟩
  | str =>
    intro pins s σ H xs us Q I r h
    obtain ⟨F, ts, rv, hs, vr, e, q⟩ := h
    match ts, e with
    | [.int i], e =>
      obtain ⟨v, rfl, d⟩ := vrs1 vr
      simp only [biR] at e
      split at e
      · cases e
        exact call_str_int pins s σ H _ us Q I r ⟨i, by rw [d.is_int], by assumption, q _ (.str _)⟩
      · cases e
  | max2 =>
    intro pins s σ H xs us Q I r h
    obtain ⟨F, ts, rv, hs, vr, e, q⟩ := h
    match ts, e with
    | [.int i, .int j], e =>
      obtain ⟨v, w, rfl, d, d'⟩ := vrs2 vr
      cases e
      exact call_max2 hc pins s σ H _ us Q I r ⟨i, j, by rw [d.is_int, d'.is_int], q _ (.int _)⟩
  | min2 =>
    intro pins s σ H xs us Q I r h
    obtain ⟨F, ts, rv, hs, vr, e, q⟩ := h
    match ts, e with
    | [.int i, .int j], e =>
      obtain ⟨v, w, rfl, d, d'⟩ := vrs2 vr
      cases e
      exact call_min2 hc pins s σ H _ us Q I r ⟨i, j, by rw [d.is_int, d'.is_int], q _ (.int _)⟩
  | gcd =>
    intro pins s σ H xs us Q I r h
    obtain ⟨F, ts, rv, hs, vr, e, q⟩ := h
    match ts, e with
    | [.int i, .int j], e =>
      obtain ⟨v, w, rfl, d, d'⟩ := vrs2 vr
      cases e
      exact cr_gcd pins s σ H _ us Q I r ⟨i, j, by rw [d.is_int, d'.is_int], q _ (.int _)⟩
  | list =>
    intro pins s σ H xs us Q I r h
    obtain ⟨F, ts, rv, hs, vr, e, q⟩ := h
    match ts, e with
    | [t], e =>
      obtain ⟨v, rfl, d⟩ := vrs1 vr
      have gen : (seqA t).map Rv.lst = some rv → wpAny (model X.prog X.w) X.A (call (.type "list") us) (EP X pins σ Q) X.xe s := fun e => by
        simp only [Option.map_eq_some_iff] at e
        obtain ⟨xs, ex, rfl⟩ := e
        obtain ⟨a, vs, rfl, ha, da⟩ := d.seqA hs ex
        exact call_list_of pins s σ H _ us Q I r ⟨a, vs, rfl, ha, fun l hl => q l vs hl da⟩
      cases t with
      | str x =>
        simp only [biR] at e
        split at e
        · rename_i hz
          cases e
          have hd := d.is_str
          subst hd
          exact cr_list_str hc x hz pins s σ H us Q I r fun l vs hl hv => q l vs hl hv
        · cases e
      | _ => exact gen e
    | _ :: _ :: _, e => simp [biR] at e
  | tuple =>
    intro pins s σ H xs us Q I r h
    obtain ⟨F, ts, rv, hs, vr, e, q⟩ := h
    have seq : ∀ {t : T} {xs : List T} {v : V}, xs.length = xs.length → VR X.K H F v t → seqL t = some xs → RvAt X.K H F Q (.tup xs) → Vals [v] us → wpAny (model X.prog X.w) X.A (call (biVal .tuple) us) (EP X pins σ Q) X.xe s := by
      intro t xs v _ d es q r
      obtain ⟨a, vs, rfl, ha, da⟩ := d.seqL hs es
      exact call_tuple_of pins s σ H _ us Q I r ⟨a, vs, rfl, .inl ⟨ha, fun l hl => q.1 l vs hl da⟩⟩
    match ts, e with
    | [t], e =>
      obtain ⟨v, rfl, d⟩ := vrs1 vr
      cases t with
      | tup xs =>
        cases e
        obtain ⟨a, vs, rfl, ha, da⟩ := d.tupF.tup'
        exact call_tuple_of pins s σ H _ us Q I r ⟨a, vs, rfl, .inr ⟨same_t hs ha, q _ d.tupF⟩⟩
      | lst xs =>
        cases e
        exact seq rfl d rfl q r
      | rlst xs =>
        cases e
        exact seq rfl d rfl q r
      | _ => simp [biR, G.seqL] at e
    | [], e => simp [biR] at e
    | _ :: _ :: _, e => simp [biR] at e
  | all =>
    intro pins s σ H xs us Q I r h
    obtain ⟨F, ts, rv, hs, vr, e, q⟩ := h
    match ts, e with
    | [t], e =>
      obtain ⟨v, rfl, d⟩ := vrs1 vr
      simp only [biR, Option.map_eq_some_iff, Option.bind_eq_some_iff] at e
      obtain ⟨bs, ⟨xs, ex, eb⟩, rfl⟩ := e
      obtain ⟨a, vs, rfl, ha, da⟩ := d.seqL hs ex
      exact cr_all hc pins s σ H _ us Q I r ⟨a, bs, rfl, by rw [← blsT_den da eb]; exact ha, q _ (.bl _)⟩
  | sum =>
    intro pins s σ H xs us Q I r h
    obtain ⟨F, ts, rv, hs, vr, e, q⟩ := h
    match ts, e with
    | [t], e =>
      obtain ⟨v, rfl, d⟩ := vrs1 vr
      simp only [biR, Option.map_eq_some_iff, Option.bind_eq_some_iff] at e
      obtain ⟨bs, ⟨xs, ex, eb⟩, rfl⟩ := e
      obtain ⟨a, vs, rfl, ha, da⟩ := d.seqL hs ex
      exact cr_sum hc pins s σ H _ us Q I r ⟨a, bs, rfl, by rw [← intsT_den da eb]; exact ha, q _ (.int _)⟩
  | sortedS =>
    intro pins s σ H xs us Q I r h
    obtain ⟨F, ts, rv, hs, vr, e, q⟩ := h
    match ts, e with
    | [t], e =>
      obtain ⟨v, rfl, d⟩ := vrs1 vr
      simp only [biR, Option.bind_eq_some_iff] at e
      obtain ⟨bs, ⟨xs, ex, eb⟩, e⟩ := e
      split at e
      · cases e
        obtain ⟨a, vs, rfl, ha, da⟩ := d.seqL hs ex
        refine cr_sortedS pins s σ H _ us Q I r ⟨a, bs, rfl, by rw [← strsT_den da eb]; exact ha, by assumption, fun ys p hp hs hn => ?_⟩
        rw [sortS_eq hp hs]
        exact q p _ hn (.of_strs _)
      · cases e
  | sortedI =>
    intro pins s σ H xs us Q I r h
    obtain ⟨F, ts, rv, hs, vr, e, q⟩ := h
    match ts, e with
    | [t], e =>
      obtain ⟨v, rfl, d⟩ := vrs1 vr
      simp only [biR, Option.bind_eq_some_iff] at e
      obtain ⟨bs, ⟨xs, ex, eb⟩, e⟩ := e
      split at e
      · cases e
        obtain ⟨a, vs, rfl, ha, da⟩ := d.seqL hs ex
        refine cr_sorted pins s σ H _ us Q I r ⟨a, bs, rfl, by rw [← intsT_den da eb]; exact ha, by assumption, fun ys p hp hs hn => ?_⟩
        rw [sortI_eq hp hs]
        exact q p _ hn (.of_ints _)
      · cases e
theorem cr_BI (hc : X.calm = true) (b : BI) (hb : b ≠ .repr) : CallR X (biVal b) (rBI X.K b) := by
  by_cases hs : b = .sorted
  · subst hs
    intro pins s σ H xs us Q I r h
    obtain ⟨F, ts, rv, hs, vr, e, q⟩ := h
    match ts, e with
    | [t], e =>
      cases h1 : (seqL t).bind strsT with
      | some ss =>
        refine cr_BI0 hc .sortedS (by decide) (by decide) pins s σ H xs us Q I r ⟨F, [t], rv, hs, vr, ?_, q⟩
        simp only [biR, h1] at e ⊢
        exact e
      | none =>
        refine cr_BI0 hc .sortedI (by decide) (by decide) pins s σ H xs us Q I r ⟨F, [t], rv, hs, vr, ?_, q⟩
        simp only [biR, h1] at e ⊢
        exact e
  · exact cr_BI0 hc b hb hs
end
end G
namespace G
open PySem PySem.Spec PyProof.Rows L2

/-! # what a text must not be -/
def noStarE : Expr → Bool
  | .Starred _ _ => false
  | _ => true
def noStar (es : List Expr) : Bool := es.all noStarE
theorem star_ne {e : Expr} (h : noStarE e = true) : ∀ x p, e ≠ .Starred x p := fun x p q => by subst q; simp [noStarE] at h
theorem star_cons {e : Expr} {es : List Expr} {env : PySem.Env} (h : noStarE e = true) : starEach (e :: es) env = (false, eval e env) :: starEach es env := by
  cases e <;> first | rfl | (simp [noStarE] at h)
theorem star_any {pos : Pos} {env : PySem.Env} : ∀ {es : List Expr}, noStar es = true → (backTo pos (starEach es env)).any (·.1) = false
  | [], _ => rfl
  | e :: es, h => by
    simp only [noStar, List.all_cons, Bool.and_eq_true] at h
    rw [star_cons h.1]
    show (false || (backTo pos (starEach es env)).any (·.1)) = false
    rw [star_any (es := es) h.2]; rfl
theorem star_all {pos : Pos} {env : PySem.Env} : ∀ {es : List Expr}, noStar es = true → (backTo pos (starEach es env)).all (fun x => !x.1) = true
  | [], _ => rfl
  | e :: es, h => by
    simp only [noStar, List.all_cons, Bool.and_eq_true] at h
    rw [star_cons h.1]
    show (true && (backTo pos (starEach es env)).all (fun x => !x.1)) = true
    rw [star_all (es := es) h.2]; rfl
def noCall0 : Expr → Bool
  | .Call _ [] [] _ => false
  | _ => true
theorem base_of {o : Expr} {a : Str} {env : PySem.Env} {m : Sem Value} (h : noCall0 o = true) : attributeBase o a env m = m := by
  cases o with
  | Call f as ks p =>
    cases as with
    | nil =>
      cases ks with
      | nil => simp [noCall0] at h
      | cons _ _ => cases f <;> rfl
    | cons _ _ => cases f <;> rfl
  | _ => rfl
def isSl : Expr → Bool
  | .Slice _ _ _ _ => true
  | _ => false
theorem plainIx {b : Expr} (h : isSl b = false) : PlainIx b := fun o i => by
  cases b <;> first | rfl | (simp [isSl] at h)

section
variable {X : Cx} {W : WX} {a b c e : Expr} {es : List Expr} {ma mb mc : Env → Out R} {ms : Env → Out (List R)} {pos p : Pos} {x : Str}

/-! # calls of built-ins -/
def mBI (b : BI) (ms : Env → Out (List R)) : Env → Out R := fun env => (ms env).bind fun rs e1 => ofO ((looks e1 rs).bind fun ts => (biR b ts).map rvR) e1
theorem bi_imp {b : BI} {σ : L2.St} {H : Hp} {Q : VK} (h : tE X.K W (mBI b ms) σ H Q) : tCB (rBI X.K b) (tA X.K W ms) σ H Q := by
  obtain ⟨env, F, fp, E, q⟩ := h
  refine tA_intro E Stp.refl q fun rs e1 H1 F1 fp1 vs l E1 s1 rs1 t1 q1 => ?_
  obtain ⟨r, e, q2⟩ := ofO_asks q1
  simp only [Option.bind_eq_some_iff, Option.map_eq_some_iff] at e
  obtain ⟨ts, e1', rv, er, rfl⟩ := e
  exact ⟨F1, ts, rv, E1.sub, rs1.vrs E1 e1', er, rv_end E1 s1 q2⟩
theorem se_biB {b : BI} {id : String} (hc : CallR X (.builtin id) (rBI X.K b)) (hg : Gl X x) (hm : X.mg x = none) (hv : bootBuiltins x = some (.builtin id)) (ha : PA X (e :: es) (tA X.K W ms)) (hs : noStar (e :: es) = true) (hn : x ≠ "__name__") (hd : (x == ("__debug__" : Str)) = false) :
    PE X (.Call (.Name x p) (e :: es) [] pos) (tE X.K W (mBI b ms)) := by
  simp only [noStar, List.all_cons, Bool.and_eq_true] at hs
  exact pe_imp (pe_callB hc hg hm hv ha hn hd (star_cons hs.1) (star_any hs.2)) fun _ _ _ => bi_imp
theorem se_biT {b : BI} {id : String} (hc : CallR X (.type id) (rBI X.K b)) (hg : Gl X x) (hm : X.mg x = none) (hv : bootBuiltins x = some (.type id)) (ha : PA X (e :: es) (tA X.K W ms)) (hs : noStar (e :: es) = true) (hn : x ≠ "__name__") (hd : (x == ("__debug__" : Str)) = false) :
    PE X (.Call (.Name x p) (e :: es) [] pos) (tE X.K W (mBI b ms)) := by
  simp only [noStar, List.all_cons, Bool.and_eq_true] at hs
  exact pe_imp (pe_callTy hc hg hm hv ha hn hd (star_cons hs.1) (star_any hs.2)) fun _ _ _ => bi_imp
theorem se_biG {b : BI} {id : String} (hc : CallR X (.builtin id) (rBI X.K b)) (hg : Gl X x) (hm : X.mg x = some (.builtin id)) (ha : PA X (e :: es) (tA X.K W ms)) (hs : noStar (e :: es) = true) (hd : (x == ("__debug__" : Str)) = false) :
    PE X (.Call (.Name x p) (e :: es) [] pos) (tE X.K W (mBI b ms)) := by
  simp only [noStar, List.all_cons, Bool.and_eq_true] at hs
  exact pe_imp (pe_callBfun hc hg hm ha hd (star_cons hs.1) (star_any hs.2)) fun _ _ _ => bi_imp

/-! # isinstance -/
theorem vr_ty {K : PySem.W.Frag} {H F : Hp} {v : V} {t : T} (s : Same F H) (h : VR K H F v t) (nd : isDicT t = false) : TyX K H v (.type (tyName t)) := by
  have hd := h.den s
  clear h
  cases hd with
  | non => exact .base .non
  | bl b => exact .base (.bl b)
  | int b => exact .base (.int b)
  | str b => exact .base (.str b)
  | lst e d => exact .base (.lst e)
  | dic e d => cases nd
  | adr a => cases nd
  | obj e c d => cases nd
  | tup e d =>
    rcases e with e | ⟨o, its, n, e, hc, _⟩
    · rcases e with e | ⟨o, e⟩
      · exact .base (.tup e)
      · exact .fTuple e
    · exact .kTuple e hc
  | rlst e d =>
    rcases e with e | ⟨o, its, n, e, hc, _⟩
    · rcases e with e | ⟨o, e⟩
      · exact .base (.lst e)
      · exact .base (.frz e)
    · exact .kList e hc
def tyOne (t ty : String) : Bool := ty == t || (t == "bool" && ty == "int")
def isTys : List String := ["int", "bool", "str", "tuple", "list", "dict"]
theorem kit_all : (["NoneType", "bool", "int", "str", "tuple", "list", "dict"].all fun t => isTys.all fun ty => decide (kitB t ty = some (tyOne t ty))) = true := by decide +kernel
theorem kit_is (t : T) {ty : String} (h : ty ∈ isTys) : kitB (tyName t) ty = some (tyOne (tyName t) ty) := by
  have h1 := kit_all
  rw [List.all_eq_true] at h1
  have h2 := h1 (tyName t) (by cases t <;> simp [tyName])
  rw [List.all_eq_true] at h2
  exact of_decide_eq_true (h2 ty h)
theorem isin_one (t : T) (ty : String) : isinR t [ty] = tyOne (tyName t) ty := by
  simp only [isinR, List.any_cons, List.any_nil, Bool.or_false, tyOne]
def mIsin (tys : List String) (ma : Env → Out R) : Env → Out R := fun env => (ma env).bind fun ra e1 => ofO ((lookT e1 ra).bind fun t => if isDicT t then none else some (R.val (.bl (isinR t tys)))) e1
theorem se_isin1 {ty : String} {y : Str} {p1 p2 : Pos} (hg : Gl X "isinstance") (hm : X.mg "isinstance" = none) (ha : PE X a (tE X.K W ma)) (hb : PE X (.Name y p1) (tC (.ty ty))) (hs : noStarE a = true) (ht : ty ∈ isTys) :
    PE X (.Call (.Name "isinstance" p2) [a, .Name y p1] [] pos) (tE X.K W (mIsin [ty] ma)) := by
  refine pe_imp (pe_callB call_isi hg hm (by decide +kernel) (pa_cons ha (pa_cons hb pa_nil) (star_cons hs)) (by decide) (by decide) (star_cons hs) rfl) fun σ H Q ⟨env, F, fp, E, q⟩ => ?_
  refine tE_intro E Stp.refl q fun ra e1 H1 F1 fp1 v l E1 s1 ra1 t1 q1 => ?_
  obtain ⟨r, e, q2⟩ := ofO_asks q1
  obtain ⟨t, et, e'⟩ := Option.bind_eq_some_iff.mp e
  split at e'
  · cases e'
  rename_i nd
  cases e'
  refine ⟨v, .ty ty, .type (tyName t), .type ty, isinR t [ty], rfl, .ty ty, vr_ty E1.sub (ra1.vr E1 et) (by simpa using nd), kit_ty ?_, q2 H1 F1 fp1 E1 s1 _ [] (.val (.bl _)) .nil⟩
  rw [kit_is t ht, isin_one]
theorem kit_any {K : PySem.W.Frag} (t : T) : ∀ {tys : List String}, (∀ ty ∈ tys, ty ∈ isTys) → PySem.W.kitAny K (.type (tyName t)) (tys.map Value.type) = some (isinR t tys)
  | [], _ => rfl
  | ty :: tys, h => by
    have h1 := kit_is t (h ty (by simp))
    have h2 := kit_any (K := K) t (tys := tys) fun z hz => h z (by simp [hz])
    have h3 : isinR t (ty :: tys) = (tyOne (tyName t) ty || isinR t tys) := by simp only [isinR, List.any_cons, tyOne]
    refine kitAny_cons (b := tyOne (tyName t) ty) (kit_ty h1) (fun hb => ?_) fun hb => ?_
    · rw [h3, hb]; exact h2
    · rw [h3, hb]; rfl
theorem se_isinN {tys : List String} {ns : List Expr} {k : Nat} {p1 p2 : Pos} (hg : Gl X "isinstance") (hm : X.mg "isinstance" = none) (ha : PE X a (tE X.K W ma)) (hb : PA X ns fun _ H Q => Q (tys.map V.ty) H) (hs : noStarE a = true) (ht : ∀ ty ∈ tys, ty ∈ isTys)
    (hl : tys.length ≤ sizeLine) : PE X (.Call (.Name "isinstance" p2) [a, .Tuple ns k p1] [] pos) (tE X.K W (mIsin tys ma)) := by
  refine pe_imp (pe_callB call_isiT hg hm (by decide +kernel) (pa_cons ha (pa_cons (pe_tup hb) pa_nil) (star_cons hs)) (by decide) (by decide) (star_cons hs) rfl) fun σ H Q ⟨env, F, fp, E, q⟩ => ?_
  refine tE_intro E Stp.refl q fun ra e1 H1 F1 fp1 v l E1 s1 ra1 t1 q1 => ?_
  obtain ⟨r, e, q2⟩ := ofO_asks q1
  obtain ⟨t, et, e'⟩ := Option.bind_eq_some_iff.mp e
  split at e'
  · cases e'
  rename_i nd
  cases e'
  refine ⟨by rw [List.length_map]; exact hl, fun tp hp => ?_⟩
  have E2 := E1.alloc (o := .tup (tys.map V.ty)) hp
  have pr : ∀ l : List String, Paired ClsV (l.map V.ty) (l.map Value.type) := fun l => by
    induction l with
    | nil => exact .nil
    | cons z zs ih => exact .cons (.ty z) ih
  have v2 : VR X.K (upd H1 tp (.tup (tys.map V.ty))) F1 v t := (ra1.step t1 (Stp.refl.alloc hp)).vr E2 et
  exact ⟨v, tp, _, _, tys.map Value.type, isinR t tys, rfl, upd_same, pr tys, vr_ty E2.sub v2 (by simpa using nd), kit_any t ht, q2 _ _ fp1 E2 (s1.alloc hp) _ [] (.val (.bl _)) .nil⟩

/-! # slices -/
def tO (K : PySem.W.Frag) (W : WX) (m : Env → Out (Option Int)) : TO := fun σ H Q => ∃ env F fp, EnvR K env σ H F fp ∧
  (m env).asks K W σ H F (fpOf env fp) fun r env' H' F' fp' => Q r H'
theorem tO_intro {β : Type} {K : PySem.W.Frag} {σ : L2.St} {env : Env} {H F H0 F0 : Hp} {fp : Nat → List Addr} {P0 : Fp} {m : Env → Out (Option Int)} {f : Option Int → Env → Out β} {Q0 : β → Env → Hp → Hp → (Nat → List Addr) → Prop} {Q : Option Int → Hp → Prop} (E : EnvR K env σ H F fp) (s : Stp P0 H0 F0 (fpOf env fp) H F) (h : ((m env).bind f).asks K W σ H0 F0 P0 Q0)
    (k : ∀ r env2 H2 F2 fp2, EnvR K env2 σ H2 F2 fp2 → Stp (fpOf env fp) H F (fpOf env2 fp2) H2 F2 → (f r env2).asks K W σ H0 F0 P0 Q0 → Q r H2) : tO K W m σ H Q := by
  refine ⟨env, F, fp, E, ?_⟩
  cases e : m env with
  | stuck => rw [e] at h; exact h
  | exc x env' => rw [e] at h; exact fun cls d H' F' fp' E' t x => h cls d H' F' fp' E' (s.trans t) x
  | ok r env2 => rw [e] at h; exact fun H' F' fp' E' t => k r env2 H' F' fp' E' t h
theorem so_none : PO X none (tO X.K W fun env => .ok none env) := ⟨fun pins s σ H Q I ⟨env, F, fp, E, q⟩ => po_none.run pins s σ H Q I (q H F fp E Stp.refl)⟩
theorem so_some (ha : PE X a (tE X.K W ma)) : PO X (some a) (tO X.K W fun env => (ma env).bind fun r e1 => match r with | .val (.int i) => .ok (some i) e1 | _ => .stuck) := by
  refine ⟨fun pins s σ H Q I ⟨env, F, fp, E, q⟩ => (po_some ha).run pins s σ H Q I ?_⟩
  refine tE_intro E Stp.refl q fun ra e1 H1 F1 fp1 v l E1 s1 ra1 t1 q1 => ?_
  cases ra1 with
  | val d =>
    cases d with
    | int i => exact ⟨i, rfl, q1 H1 F1 fp1 E1 s1⟩
    | _ => exact q1.elim
  | _ => exact q1.elim
theorem cut_den {K : PySem.W.Frag} {F : Hp} {vs : List V} {ts : List T} {lo hi : Option Int} (d : DenAll K F vs ts) : DenAll K F (cutV vs lo hi) (cutT ts lo hi) := by
  unfold cutV cutT
  rw [d.length]
  exact (d.drop _).take _
theorem sl_R : SlR X (fun x lo hi H Q => ∃ F t r, Same F H ∧ VR X.K H F x t ∧ slR t lo hi = some r ∧ RvAt X.K H F Q r) := by
  intro pins s σ H x v vl vu lo hi sl Q I rx hs pl pu h
  obtain ⟨F, t, r, sF, vr, e, q⟩ := h
  cases t with
  | lst xs =>
    cases e
    obtain ⟨a, vs, rfl, ha, da⟩ := vr.lstF sF
    exact sl_list pins s σ H _ v vl vu lo hi sl Q I rx hs pl pu ⟨a, vs, rfl, .inl (.inl ha), fun p hp => q p _ hp (cut_den da)⟩
  | rlst xs =>
    cases e
    obtain ⟨a, vs, rfl, ha, da⟩ := vr.rlstF sF
    exact sl_list pins s σ H _ v vl vu lo hi sl Q I rx hs pl pu ⟨a, vs, rfl, ha, fun p hp => q p _ hp (cut_den da)⟩
  | tup xs =>
    cases e
    obtain ⟨a, vs, rfl, ha, da⟩ := vr.tupF.tup'
    refine sl_tupA pins s σ H _ v vl vu lo hi sl Q I rx hs pl pu ⟨a, vs, rfl, same_t sF ha, fun ⟨e1, e2⟩ => ?_, fun _ p hp => q.1 p _ hp (cut_den da)⟩
    have : cutT xs lo hi = xs := by
      unfold cutT
      rw [← da.length, e1, e2, List.drop_zero, da.length, Nat.sub_zero, List.take_length]
    rw [this] at q
    exact q.2 _ vr.tupF
  | str z =>
    simp only [slR] at e
    split at e
    · cases e
      exact sl_str pins s σ H _ v vl vu lo hi sl Q I rx hs pl pu ⟨z, vr.is_str, by assumption, q _ (.str _)⟩
    · cases e
  | _ => simp [slR] at e
theorem se_sl {lo hi : Option Expr} {ml mh : Env → Out (Option Int)} {p2 : Pos} (ha : PE X a (tE X.K W ma)) (hl : PO X lo (tO X.K W ml)) (hh : PO X hi (tO X.K W mh)) : PE X (.Subscript a (.Slice lo hi none p2) pos)
    (tE X.K W fun env => (ma env).bind fun ra e1 => (ml e1).bind fun rl e2 => (mh e2).bind fun rh e3 => ofO ((lookT e3 ra).bind fun x => (slR x rl rh).map rvR) e3) := by
  refine pe_imp (pe_slice sl_R ha hl hh) fun σ H Q ⟨env, F, fp, E, q⟩ => ?_
  refine tE_intro E Stp.refl q fun ra e1 H1 F1 fp1 v l E1 s1 ra1 t1 q1 => ?_
  refine tO_intro E1 s1 q1 fun rl e2 H2 F2 fp2 E2 s2 q2 => ?_
  refine tO_intro E2 (s1.trans s2) q2 fun rh e3 H3 F3 fp3 E3 s3 q3 => ?_
  obtain ⟨r, e, q4⟩ := ofO_asks q3
  simp only [Option.bind_eq_some_iff, Option.map_eq_some_iff] at e
  obtain ⟨x, ex, rv, er, rfl⟩ := e
  exact ⟨F3, x, rv, E3.sub, (ra1.step t1 (s2.trans s3)).vr E3 ex, er, rv_end E3 ((s1.trans s2).trans s3) q4⟩

/-! # tests -/
theorem tE_intro' {β : Type} {K : PySem.W.Frag} {σ : L2.St} {env : Env} {H F H0 F0 : Hp} {fp : Nat → List Addr} {P0 : Fp} {m : Env → Out R} {f : R → Env → Out β} {Q0 : β → Env → Hp → Hp → (Nat → List Addr) → Prop} {Q : VK} (E : EnvR K env σ H F fp) (s : Stp P0 H0 F0 (fpOf env fp) H F) (h : ((m env).bind f).asks K W σ H0 F0 P0 Q0)
    (k : ∀ r env2 H2 F2 fp2 v l, m env = .ok r env2 → EnvR K env2 σ H2 F2 fp2 → Stp (fpOf env fp) H F (fpOf env2 fp2) H2 F2 → RR K σ H2 F2 r v l → Tmp H (fpOf env fp) F2 (fpOf env2 fp2) l → (f r env2).asks K W σ H0 F0 P0 Q0 → Q v H2) : tE K W m σ H Q := by
  refine ⟨env, F, fp, E, ?_⟩
  cases e : m env with
  | stuck => rw [e] at h; exact h
  | exc x env' => rw [e] at h; exact fun cls d H' F' fp' E' t x => h cls d H' F' fp' E' (s.trans t) x
  | ok r env2 => rw [e] at h; exact fun H' F' fp' E' t v l rr tm => k r env2 H' F' fp' v l e E' t rr tm h
def mTru (ma : Env → Out R) : Env → Out Bool := fun env => (ma env).bind fun r e1 => ofO ((lookT e1 r).bind truR) e1
theorem tru_imp {σ : L2.St} {H : Hp} {Q : Bool → Hp → Prop} (h : G.tB X.K W (mTru ma) σ H Q) : tE X.K W ma σ H fun x H' => ∃ k, TruV X.K x H' k ∧ Q k H' := by
  obtain ⟨env, F, fp, E, q⟩ := h
  refine tE_intro E Stp.refl q fun ra e1 H1 F1 fp1 v l E1 s1 ra1 t1 q1 => ?_
  obtain ⟨r, e, q2⟩ := ofO_asks q1
  simp only [Option.bind_eq_some_iff] at e
  obtain ⟨t, et, ek⟩ := e
  exact ⟨r, ((ra1.vr E1 et).den E1.sub).tru ek, q2 H1 F1 fp1 E1 s1⟩
theorem tru_bl {σ : L2.St} {H : Hp} {Q : Bool → Hp → Prop} (hb : ∀ env r e1, ma env = .ok r e1 → ∃ b, r = .val (.bl b)) (h : G.tB X.K W (mTru ma) σ H Q) : tE X.K W ma σ H fun x H' => ∃ k, x = .bl k ∧ Q k H' := by
  obtain ⟨env, F, fp, E, q⟩ := h
  refine tE_intro' E Stp.refl q fun ra e1 H1 F1 fp1 v l eq E1 s1 ra1 t1 q1 => ?_
  obtain ⟨b, rfl⟩ := hb _ _ _ eq
  cases ra1 with
  | val d =>
    cases d
    exact ⟨b, rfl, q1 H1 F1 fp1 E1 s1⟩
theorem bind_ok {α β : Type} {o : Out α} {f : α → Env → Out β} {b : β} {e : Env} (h : o.bind f = .ok b e) : ∃ a e1, o = .ok a e1 ∧ f a e1 = .ok b e := by
  cases o with
  | ok a e1 => exact ⟨a, e1, rfl, h⟩
  | exc _ _ => cases h
  | stuck => cases h
theorem ofO_ok {α : Type} {o : Option α} {b : α} {e e1 : Env} (h : ofO o e = .ok b e1) : o = some b ∧ e = e1 := by
  cases o with
  | none => cases h
  | some a => cases h; exact ⟨rfl, rfl⟩
theorem cmp_bl {op : CmpOp} : ∀ env r e1, mCmp op ma mb env = .ok r e1 → ∃ b, r = .val (.bl b) := fun env r e1 h => by
  obtain ⟨ra, e2, h1, h⟩ := bind_ok h
  obtain ⟨rb, e3, h2, h⟩ := bind_ok h
  obtain ⟨h, _⟩ := ofO_ok h
  simp only [Option.bind_eq_some_iff, Option.map_eq_some_iff] at h
  obtain ⟨_, _, _, _, b, _, rfl⟩ := h
  exact ⟨b, rfl⟩
theorem chain_bl {op op' : CmpOp} : ∀ env r e1, mChain op op' ma mb mc env = .ok r e1 → ∃ b, r = .val (.bl b) := fun env r e1 h => by
  obtain ⟨ra, e2, h1, h⟩ := bind_ok h
  obtain ⟨rb, e3, h2, h⟩ := bind_ok h
  split at h
  · obtain ⟨rc, e4, h3, h⟩ := bind_ok h
    obtain ⟨h, _⟩ := ofO_ok h
    simp only [Option.bind_eq_some_iff, Option.map_eq_some_iff] at h
    obtain ⟨_, _, _, _, b, _, rfl⟩ := h
    exact ⟨b, rfl⟩
  · cases h; exact ⟨false, rfl⟩
  · cases h
theorem st_cmp (hu : X.A.units + 65 < cLine) {op : CmpOp} (ha : PE X a (tE X.K W ma)) (hb : PE X b (tE X.K W mb)) (hm : behindInMarks op b = false) : PT X (.Compare a [op] [b] pos) (G.tB X.K W (mTru (mCmp op ma mb))) :=
  pt_imp (pt_cmpR (op_cmpR hu op) ha hb hm) fun _ _ _ h => cmp_imp (tru_bl cmp_bl h)
theorem st_chain (hu : X.A.units + 65 < cLine) {op op' : CmpOp} (ha : PE X a (tE X.K W ma)) (hb : PE X b (tE X.K W mb)) (hc : PE X c (tE X.K W mc)) (hm : behindInMarks op' c = false) :
    PT X (.Compare a [op, op'] [b, c] pos) (G.tB X.K W (mTru (mChain op op' ma mb mc))) :=
  pt_imp (pt_chain (op_cmpR hu op) (op_cmpR hu op') ha hb hc (marks2 hm)) fun _ _ _ h => chain_imp (tru_bl chain_bl h)
def plainT : Expr → Bool
  | .UnaryOp .Not _ _ => false
  | .BoolOp _ _ _ => false
  | .IfExp _ _ _ _ => false
  | .Compare _ _ _ _ => false
  | _ => true
theorem st_val (ha : PE X a (tE X.K W ma)) (hp : plainT a = true) : PT X a (G.tB X.K W (mTru ma)) := by
  refine pt_imp (pt_truth ha fun whole => ?_) fun _ _ _ h => tru_imp h
  cases a with
  | UnaryOp op e p => cases op <;> first | rfl | (simp [plainT] at hp)
  | BoolOp _ _ _ => simp [plainT] at hp
  | IfExp _ _ _ _ => simp [plainT] at hp
  | Compare _ _ _ _ => simp [plainT] at hp
  | _ => rfl
variable {ka kb : Env → Out Bool}
theorem st_not (ha : PT X a (G.tB X.K W ka)) : PT X (.UnaryOp .Not a pos) (G.tB X.K W fun env => (ka env).bind fun k e1 => .ok (!k) e1) :=
  pt_imp (pt_not ha) fun σ H Q ⟨env, F, fp, E, q⟩ => tB_intro E Stp.refl q fun k e1 H1 F1 fp1 E1 s1 q1 => q1 H1 F1 fp1 E1 s1
theorem st_and {rest : List Expr} (ha : PT X a (G.tB X.K W ka)) (hb : PW X (.BoolOp .And (b :: rest) pos) (G.tB X.K W kb)) : PW X (.BoolOp .And (a :: b :: rest) pos)
    (G.tB X.K W fun env => (ka env).bind fun k e1 => if k then kb e1 else .ok false e1) := by
  refine pw_imp (pw_and ha hb) fun σ H Q ⟨env, F, fp, E, q⟩ => ?_
  refine tB_intro E Stp.refl q fun k e1 H1 F1 fp1 E1 s1 q1 => ?_
  cases k with
  | true => rw [if_pos rfl] at q1 ⊢; exact ⟨e1, F1, fp1, E1, Out.asks_mono s1 q1 fun _ _ _ _ _ _ _ q => q⟩
  | false => rw [if_neg Bool.false_ne_true] at q1 ⊢; exact q1 H1 F1 fp1 E1 s1
theorem st_or {rest : List Expr} (ha : PT X a (G.tB X.K W ka)) (hb : PW X (.BoolOp .Or (b :: rest) pos) (G.tB X.K W kb)) : PW X (.BoolOp .Or (a :: b :: rest) pos)
    (G.tB X.K W fun env => (ka env).bind fun k e1 => if k then .ok true e1 else kb e1) := by
  refine pw_imp (pw_or ha hb) fun σ H Q ⟨env, F, fp, E, q⟩ => ?_
  refine tB_intro E Stp.refl q fun k e1 H1 F1 fp1 E1 s1 q1 => ?_
  cases k with
  | true => rw [if_pos rfl] at q1 ⊢; exact q1 H1 F1 fp1 E1 s1
  | false => rw [if_neg Bool.false_ne_true] at q1 ⊢; exact ⟨e1, F1, fp1, E1, Out.asks_mono s1 q1 fun _ _ _ _ _ _ _ q => q⟩
end
end G
namespace G
open PySem PySem.Spec PyProof.Rows L2
section
variable {X : Cx} {W : WX} {a b c e o f : Expr} {es : List Expr} {ma mb mc mo mk mx : Env → Out R} {ms : Env → Out (List R)} {pos p apos : Pos} {x : Str}

/-! # methods -/
theorem se_bits (ho : PE X o (tE X.K W mo)) (hb : noCall0 o = true) (hl : (apos.endLine == pos.line) = true) : PE X (.Call (.Attribute o "bit_length" apos) [] [] pos)
    (tE X.K W fun env => (mo env).bind fun ro e1 => match ro with | .val t => ofO ((met0R .bits t).map rvR) e1 | _ => .stuck) := by
  refine pe_imp (pe_bits ho (base_of hb) hl) fun σ H Q ⟨env, F, fp, E, q⟩ => ?_
  refine tE_intro E Stp.refl q fun ra e1 H1 F1 fp1 v l E1 s1 ra1 t1 q1 => ?_
  cases ra1 with
  | val d =>
    obtain ⟨r, e, q2⟩ := ofO_asks q1
    cases d with
    | int i => cases e; exact ⟨i, rfl, q2 H1 F1 fp1 E1 s1 _ [] (.val (.int _)) .nil⟩
    | _ => simp [met0R] at e
  | _ => exact q1.elim
theorem se_m0 {m : Me0} {id : String} {name : Str} {r : V → List V → Hp → VK → Prop} (slot : Slot "str" name id) (ty : typeOf (.builtin id) = pure (.type "method_descriptor")) (rule : MtR X id r)
    (hr : ∀ s rv H F Q, met0R m (.str s) = some rv → RvAt X.K H F Q rv → r (.str s) [] H Q) (hn : ∀ t rv, met0R m t = some rv → ∃ s, t = .str s) (ho : PE X o (tE X.K W mo)) (hb : noCall0 o = true) (hl : (apos.endLine == pos.line) = true) :
    PE X (.Call (.Attribute o name apos) [] [] pos) (tE X.K W fun env => (mo env).bind fun ro e1 => match ro with | .val t => ofO ((met0R m t).map rvR) e1 | _ => .stuck) := by
  refine pe_imp (pe_m0 slot ty rule ho (base_of hb) hl) fun σ H Q ⟨env, F, fp, E, q⟩ => ?_
  refine tE_intro E Stp.refl q fun ra e1 H1 F1 fp1 v l E1 s1 ra1 t1 q1 => ?_
  cases ra1 with
  | val d =>
    obtain ⟨rr, e, q2⟩ := ofO_asks q1
    obtain ⟨rv, ev, rfl⟩ := Option.map_eq_some_iff.mp e
    obtain ⟨s, rfl⟩ := hn _ _ ev
    have hv := d.is_str
    subst hv
    exact ⟨⟨s, rfl⟩, hr s rv H1 F1 Q ev (rv_end E1 s1 q2)⟩
  | _ => exact q1.elim
theorem se_m1 {m : Me1} {id : String} {name : Str} {r : V → List V → Hp → VK → Prop} (slot : Slot "str" name id) (ty : typeOf (.builtin id) = pure (.type "method_descriptor")) (rule : MtR X id r)
    (hr : ∀ s t y rv H F Q, Same F H → VR X.K H F y t → met1R m s t = some rv → RvAt X.K H F Q rv → r (.str s) [y] H Q) (ho : PE X o (tE X.K W mo)) (ha : PE X a (tE X.K W ma)) (hb : noCall0 o = true) (hs : noStarE a = true) (hl : (apos.endLine == pos.line) = true) :
    PE X (.Call (.Attribute o name apos) [a] [] pos) (tE X.K W fun env => (mo env).bind fun ro e1 => match ro with
    | .val (.str s) => (ma e1).bind fun ra e2 => ofO ((lookT e2 ra).bind fun t => (met1R m s t).map rvR) e2
    | _ => .stuck) := by
  refine pe_imp (pe_m1 slot ty rule ho ha (star_cons hs) (base_of hb) hl) fun σ H Q ⟨env, F, fp, E, q⟩ => ?_
  refine tE_intro E Stp.refl q fun ra e1 H1 F1 fp1 v l E1 s1 ra1 t1 q1 => ?_
  cases ra1 with
  | val d =>
    cases d with
    | str s =>
      refine ⟨⟨s, rfl⟩, ?_⟩
      refine tE_intro E1 s1 q1 fun rb e2 H2 F2 fp2 w l2 E2 s2 rb2 t2 q2 => ?_
      obtain ⟨rr, e, q3⟩ := ofO_asks q2
      simp only [Option.bind_eq_some_iff, Option.map_eq_some_iff] at e
      obtain ⟨t, et, rv, er, rfl⟩ := e
      exact hr s t w rv H2 F2 Q E2.sub (rb2.vr E2 et) er (rv_end E2 (s1.trans s2) q3)
    | _ => exact q1.elim
  | _ => exact q1.elim
theorem se_join (ho : PE X o (tE X.K W mo)) (ha : PE X a (tE X.K W ma)) (hb : noCall0 o = true) (hs : noStarE a = true) (hl : (apos.endLine == pos.line) = true) :
    PE X (.Call (.Attribute o "join" apos) [a] [] pos) (tE X.K W fun env => (mo env).bind fun ro e1 => match ro with
    | .val (.str s) => (ma e1).bind fun ra e2 => ofO ((lookT e2 ra).bind fun t => (met1R .join s t).map rvR) e2
    | _ => .stuck) :=
  se_m1 F.slot_str_join F.type_str_join mt_join (fun s t y rv H F Q hF d e q => by
    simp only [met1R, Option.bind_eq_some_iff] at e
    obtain ⟨ss, ⟨xs, ex, es⟩, e⟩ := e
    split at e
    · cases e
      obtain ⟨p, vs, rfl, hp, da⟩ := d.seqA hF ex
      have hv := strsT_den da es
      subst hv
      exact ⟨s, p, ss, rfl, rfl, hp, by assumption, q _ (.str _)⟩
    · cases e) ho ha hb hs hl
theorem se_split (ho : PE X o (tE X.K W mo)) (ha : PE X a (tE X.K W ma)) (hb : noCall0 o = true) (hs : noStarE a = true) (hl : (apos.endLine == pos.line) = true) :
    PE X (.Call (.Attribute o "split" apos) [a] [] pos) (tE X.K W fun env => (mo env).bind fun ro e1 => match ro with
    | .val (.str s) => (ma e1).bind fun ra e2 => ofO ((lookT e2 ra).bind fun t => (met1R .split s t).map rvR) e2
    | _ => .stuck) :=
  se_m1 F.slot_str_split F.type_str_split mt_split (fun s t y rv H F Q hF d e q => by
    cases t with
    | str b =>
      simp only [met1R] at e
      split at e
      · rename_i hc
        cases e
        exact ⟨s, b, rfl, by rw [d.is_str], hc.1, hc.2, fun p hp => q p _ hp (.of_strs _)⟩
      · cases e
    | _ => simp [met1R, G.seqA] at e) ho ha hb hs hl
theorem se_dget2 (hu : X.A.units + 1 < cLine) (ho : PE X o (tE X.K W mo)) (hk : PE X e (tE X.K W mk)) (hx : PE X f (tE X.K W mx)) (hb : noCall0 o = true) (hs : noStar [e, f] = true) (hl : (apos.endLine == pos.line) = true) :
    PE X (.Call (.Attribute o "get" apos) [e, f] [] pos) (tE X.K W fun env => (mo env).bind fun ro e1 => match lookT e1 ro with
    | some (.dic _) => (mk e1).bind fun rk e2 => (mx e2).bind fun rx e3 => ofO (match lookT e3 ro, (lookT e3 rk).bind keyT, esc e3 rx with
      | some (.dic kts), some k, some t => some (R.val ((valT kts k).getD t))
      | _, _, _ => none) e3
    | _ => .stuck) := by
  have hs' := hs
  simp only [noStar, List.all_cons, List.all_nil, Bool.and_true, Bool.and_eq_true] at hs'
  refine pe_imp (pe_dget2 hu ho hk hx ⟨base_of hb, by rw [star_all hs]; rfl, hl, by rw [star_cons hs'.1, star_cons hs'.2]; rfl⟩) fun σ H Q ⟨env, F, fp, E, q⟩ => ?_
  refine tE_intro E Stp.refl q fun ro e1 H1 F1 fp1 v l E1 s1 ro1 t1 q1 => ?_
  cases el : lookT e1 ro with
  | none => simp only [el] at q1; exact q1.elim
  | some t0 =>
    cases t0 with
    | dic kts0 =>
      simp only [el] at q1
      obtain ⟨a, kvs, rfl, ha, da⟩ := (ro1.vr E1 el).dicF E1.sub
      refine ⟨a, rfl, .inl ⟨kvs, ha⟩, ?_⟩
      refine tE_intro E1 s1 q1 fun rk e2 H2 F2 fp2 vk lk E2 s2 rk2 t2 q2 => ?_
      refine tE_intro E2 (s1.trans s2) q2 fun rx e3 H3 F3 fp3 vx lx E3 s3 rx3 t3 q3 => ?_
      obtain ⟨rr, e, q4⟩ := ofO_asks q3
      cases e1' : lookT e3 ro with
      | none => rw [e1'] at e; simp at e
      | some td =>
        cases e2' : (lookT e3 rk).bind keyT with
        | none => rw [e1', e2'] at e; simp at e
        | some k =>
          cases e3' : esc e3 rx with
          | none => rw [e1', e2', e3'] at e; simp at e
          | some t =>
            rw [e1', e2', e3'] at e
            cases td with
            | dic kts =>
              simp only [Option.some.injEq] at e
              subst e
              obtain ⟨tk, etk, ek⟩ := Option.bind_eq_some_iff.mp e2'
              have ro3 := ro1.step t1 (s2.trans s3)
              obtain ⟨F4, sF, dx, E4, s4, _⟩ := esc_ok rx3 E3 (t3.base (s1.trans s2)) ((s1.trans s2).trans s3) e3'
              obtain ⟨a', kvs', ea, ha', da'⟩ := (ro3.vr E3 e1').dicF E3.sub
              cases ea
              have hk3 := (((rk2.step t2 s3).vr E3 etk).den E3.sub).key ek
              refine ⟨valV kvs' k, .inl ⟨kvs', k, ha', hk3, rfl⟩, q4 H3 F4 fp3 E4 s4 _ [] (.val ?_) .nil⟩
              rcases da'.val k with ⟨w, t', ew, et, dw⟩ | ⟨ew, et⟩
              · rw [ew, et]; exact dw.mono sF
              · rw [ew, et]; exact dx
            | _ => simp at e
    | _ => simp only [el] at q1; exact q1.elim
end
end G
namespace G
open PySem PySem.Spec PyProof.Rows L2

/-! # what is walked -/
/-- a turn's item -/
def Yd (K : PySem.W.Frag) (H F : Hp) (x : V) (H' : Hp) (t : T) : Prop :=
  (H' = H ∧ Den K F x t) ∨ ∃ p vs ts, H p = none ∧ H' = upd H p (.tup vs) ∧ x = .ref p ∧ t = .tup ts ∧ DenAll K F vs ts
structure SrcOk (K : PySem.W.Frag) (J : It) (items : List T) (Std : Fp → Hp → Hp → Prop) : Prop where
  go : ∀ i P H F, Std P H F → Same F H → i < items.length → J.go i H
  stop : ∀ i P H F, Std P H F → Same F H → items.length ≤ i → J.stop i H
  yld : ∀ i P H F x H' t, Std P H F → Same F H → J.yld i H x H' → items[i]? = some t → Yd K H F x H' t
  step : ∀ P H F P' H' F', Std P H F → Stp P H F P' H' F' → Std P' H' F'
/-- a thing that stands -/
def Stands (P : Fp) (H : Hp) (a : Addr) (o : HO) : Prop := H a = some o ∧ ¬ P.own a
theorem Stands.step {P P' : Fp} {H H' F F' : Hp} {a : Addr} {o : HO} (h : Stands P H a o) (s : Stp P H F P' H' F') : Stands P' H' a o :=
  ⟨s.keep a o h.1 h.2, fun z => (s.own a z).elim h.2 fun q => by rw [h.1] at q; cases q⟩
def LStd (K : PySem.W.Frag) (a : Addr) (vs : List V) (P : Fp) (H : Hp) : Prop := (∃ o, Stands P H a o ∧ (o = .lst vs ∨ ∃ ob, o = .frz ob (.lst vs))) ∨ ∀ H, SqL K H a vs
def TStd (K : PySem.W.Frag) (a : Addr) (vs : List V) (P : Fp) (H : Hp) : Prop := (∃ o, Stands P H a o ∧ (o = .tup vs ∨ ∃ ob, o = .frz ob (.tup vs))) ∨ ∀ H, SqT K H a vs
section
variable {K : PySem.W.Frag} {a : Addr} {vs : List V} {P P' : Fp} {H H' F F' : Hp} {ts : List T}
theorem LStd.sq (h : LStd K a vs P H) : SqL K H a vs := by
  rcases h with ⟨o, ⟨h, _⟩, rfl | ⟨ob, rfl⟩⟩ | h
  · exact .inl (.inl h)
  · exact .inl (.inr ⟨_, h⟩)
  · exact h H
theorem TStd.sq (h : TStd K a vs P H) : SqT K H a vs := by
  rcases h with ⟨o, ⟨h, _⟩, rfl | ⟨ob, rfl⟩⟩ | h
  · exact .inl (.inl h)
  · exact .inl (.inr ⟨_, h⟩)
  · exact h H
theorem LStd.step (h : LStd K a vs P H) (s : Stp P H F P' H' F') : LStd K a vs P' H' := h.imp (fun ⟨o, h1, h2⟩ => ⟨o, h1.step s, h2⟩) id
theorem TStd.step (h : TStd K a vs P H) (s : Stp P H F P' H' F') : TStd K a vs P' H' := h.imp (fun ⟨o, h1, h2⟩ => ⟨o, h1.step s, h2⟩) id
theorem LStd.of {env : Env} {σ : L2.St} {fp : Nat → List Addr} (E : EnvR K env σ H F fp) (h : SqL K F a vs) : LStd K a vs (fpOf env fp) H := by
  have no : ∀ o, F a = some o → ¬ (fpOf env fp).own a := fun o e ⟨i, _, _, hi⟩ => by rw [E.free i a hi] at e; cases e
  rcases h with (h | ⟨ob, h⟩) | h
  · exact .inl ⟨_, ⟨E.sub _ _ h, no _ h⟩, .inl rfl⟩
  · exact .inl ⟨_, ⟨E.sub _ _ h, no _ h⟩, .inr ⟨ob, rfl⟩⟩
  · exact .inr fun H => .inr h
theorem TStd.of {env : Env} {σ : L2.St} {fp : Nat → List Addr} (E : EnvR K env σ H F fp) (h : SqT K F a vs) : TStd K a vs (fpOf env fp) H := by
  have no : ∀ o, F a = some o → ¬ (fpOf env fp).own a := fun o e ⟨i, _, _, hi⟩ => by rw [E.free i a hi] at e; cases e
  rcases h with (h | ⟨ob, h⟩) | h
  · exact .inl ⟨_, ⟨E.sub _ _ h, no _ h⟩, .inl rfl⟩
  · exact .inl ⟨_, ⟨E.sub _ _ h, no _ h⟩, .inr ⟨ob, rfl⟩⟩
  · exact .inr fun H => .inr h
theorem src_list (F0 : Hp) (d : DenAll K F0 vs ts) : SrcOk K (Itl K a) ts fun P H F => LStd K a vs P H ∧ Same F0 F where
  go := fun i P H F h _ hi => ⟨vs, vs[i]'(by rw [d.length]; exact hi), h.1.sq, List.getElem?_eq_getElem _⟩
  stop := fun i P H F h _ hi => ⟨vs, h.1.sq, by rw [d.length]; exact hi⟩
  yld := fun i P H F x H' t h _ y e => by
    obtain ⟨rfl, y⟩ := y
    obtain ⟨u, eu, du⟩ := d.get e
    have := y vs h.1.sq
    rw [eu] at this
    cases this
    exact .inl ⟨rfl, du.mono h.2⟩
  step := fun P H F P' H' F' h s => ⟨h.1.step s, h.2.trans s.fz⟩
theorem src_tup (F0 : Hp) (d : DenAll K F0 vs ts) : SrcOk K (Itt K a) ts fun P H F => TStd K a vs P H ∧ Same F0 F where
  go := fun i P H F h _ hi => ⟨vs, vs[i]'(by rw [d.length]; exact hi), h.1.sq, List.getElem?_eq_getElem _⟩
  stop := fun i P H F h _ hi => ⟨vs, h.1.sq, by rw [d.length]; exact hi⟩
  yld := fun i P H F x H' t h _ y e => by
    obtain ⟨rfl, y⟩ := y
    obtain ⟨u, eu, du⟩ := d.get e
    have := y vs h.1.sq
    rw [eu] at this
    cases this
    exact .inl ⟨rfl, du.mono h.2⟩
  step := fun P H F P' H' F' h s => ⟨h.1.step s, h.2.trans s.fz⟩
theorem src_rng (lo : Int) (n : Nat) : SrcOk K (Itr lo n) (rngT lo n) fun _ _ _ => True where
  go := fun i P H F _ _ hi => by
    show i < n
    simpa [rngT] using hi
  stop := fun i P H F _ _ hi => by
    show n ≤ i
    simpa [rngT] using hi
  yld := fun i P H F x H' t _ _ y e => by
    obtain ⟨rfl, rfl⟩ := y
    unfold rngT at e
    rw [List.getElem?_map] at e
    cases ei : (List.range n)[i]? with
    | none => rw [ei] at e; cases e
    | some k =>
      rw [ei] at e
      cases e
      obtain ⟨_, ek⟩ := List.getElem?_eq_some_iff.mp ei
      rw [List.getElem_range] at ek
      subst ek
      exact .inl ⟨rfl, .int _⟩
  step := fun _ _ _ _ _ _ _ _ => trivial
theorem src_str (s : Str) : SrcOk K (Its s) (s.cps.toList.map fun c => T.str ⟨#[c]⟩) fun _ _ _ => True where
  go := fun i P H F _ _ hi => by
    show i < s.cps.size
    simpa using hi
  stop := fun i P H F _ _ hi => by
    show s.cps.size ≤ i
    simpa using hi
  yld := fun i P H F x H' t _ _ y e => by
    obtain ⟨rfl, c, ec, rfl⟩ := y
    rw [List.getElem?_map, Array.getElem?_toList, ec] at e
    cases e
    exact .inl ⟨rfl, .str _⟩
  step := fun _ _ _ _ _ _ _ _ => trivial
theorem zipT_len : ∀ (xs ys : List T) (i : Nat), i < (zipT xs ys).length ↔ i < xs.length ∧ i < ys.length
  | [], ys, i => by cases ys <;> simp [zipT]
  | x :: xs, [], i => by simp [zipT]
  | x :: xs, y :: ys, 0 => by simp [zipT]
  | x :: xs, y :: ys, i + 1 => by simp only [zipT, List.length_cons, Nat.add_lt_add_iff_right]; exact zipT_len xs ys i
theorem zipT_get : ∀ (xs ys : List T) (i : Nat) (t : T), (zipT xs ys)[i]? = some t → ∃ x y, xs[i]? = some x ∧ ys[i]? = some y ∧ t = .tup [x, y]
  | [], ys, i, t, h => by cases ys <;> simp [zipT] at h
  | x :: xs, [], i, t, h => by simp [zipT] at h
  | x :: xs, y :: ys, 0, t, h => by simp [zipT] at h; exact ⟨x, y, by simp, by simp, h.symm⟩
  | x :: xs, y :: ys, i + 1, t, h => by
    simp only [zipT, List.getElem?_cons_succ] at h ⊢
    exact zipT_get xs ys i t h
theorem src_zip {b : Addr} {ws : List V} {us : List T} (F0 : Hp) (d : DenAll K F0 vs ts) (d' : DenAll K F0 ws us) : SrcOk K (Itz K a b) (zipT ts us) fun P H F => LStd K a vs P H ∧ LStd K b ws P H ∧ Same F0 F where
  go := fun i P H F h _ hi => by
    obtain ⟨h1, h2⟩ := (zipT_len ts us i).mp hi
    exact ⟨vs, ws, vs[i]'(by rw [d.length]; exact h1), ws[i]'(by rw [d'.length]; exact h2), h.1.sq, h.2.1.sq, List.getElem?_eq_getElem _, List.getElem?_eq_getElem _⟩
  stop := fun i P H F h _ hi => by
    refine ⟨vs, ws, h.1.sq, h.2.1.sq, ?_⟩
    rw [d.length, d'.length]
    by_cases h1 : i < ts.length
    · by_cases h2 : i < us.length
      · have := (zipT_len ts us i).mpr ⟨h1, h2⟩; omega
      · exact .inr (by omega)
    · exact .inl (by omega)
  yld := fun i P H F x H' t h _ y e => by
    obtain ⟨p, x1, x2, rfl, hp, rfl, y1, y2⟩ := y
    obtain ⟨t1, t2, e1, e2, rfl⟩ := zipT_get _ _ _ _ e
    obtain ⟨u1, eu1, du1⟩ := d.get e1
    obtain ⟨u2, eu2, du2⟩ := d'.get e2
    have z1 := y1 vs h.1.sq
    have z2 := y2 ws h.2.1.sq
    rw [eu1] at z1
    rw [eu2] at z2
    cases z1
    cases z2
    exact .inr ⟨p, _, _, hp, rfl, rfl, rfl, .cons (du1.mono h.2.2) (.cons (du2.mono h.2.2) .nil)⟩
  step := fun P H F P' H' F' h s => ⟨h.1.step s, h.2.1.step s, h.2.2.trans s.fz⟩
theorem src_zipT {b : Addr} {ws : List V} {us : List T} (F0 : Hp) (d : DenAll K F0 vs ts) (d' : DenAll K F0 ws us) : SrcOk K (RZ.ItzT K a b) (zipT ts us) fun P H F => TStd K a vs P H ∧ TStd K b ws P H ∧ Same F0 F where
  go := fun i P H F h _ hi => by
    obtain ⟨h1, h2⟩ := (zipT_len ts us i).mp hi
    exact ⟨vs, ws, vs[i]'(by rw [d.length]; exact h1), ws[i]'(by rw [d'.length]; exact h2), h.1.sq, h.2.1.sq, List.getElem?_eq_getElem _, List.getElem?_eq_getElem _⟩
  stop := fun i P H F h _ hi => by
    refine ⟨vs, ws, h.1.sq, h.2.1.sq, ?_⟩
    rw [d.length, d'.length]
    by_cases h1 : i < ts.length
    · by_cases h2 : i < us.length
      · have := (zipT_len ts us i).mpr ⟨h1, h2⟩; omega
      · exact .inr (by omega)
    · exact .inl (by omega)
  yld := fun i P H F x H' t h _ y e => by
    obtain ⟨p, x1, x2, rfl, hp, rfl, y1, y2⟩ := y
    obtain ⟨t1, t2, e1, e2, rfl⟩ := zipT_get _ _ _ _ e
    obtain ⟨u1, eu1, du1⟩ := d.get e1
    obtain ⟨u2, eu2, du2⟩ := d'.get e2
    have z1 := y1 vs h.1.sq
    have z2 := y2 ws h.2.1.sq
    rw [eu1] at z1
    rw [eu2] at z2
    cases z1
    cases z2
    exact .inr ⟨p, _, _, hp, rfl, rfl, rfl, .cons (du1.mono h.2.2) (.cons (du2.mono h.2.2) .nil)⟩
  step := fun P H F P' H' F' h s => ⟨h.1.step s, h.2.1.step s, h.2.2.trans s.fz⟩
/-- an item comes: the world behind it -/
theorem Yd.to {env : Env} {σ : L2.St} {fp : Nat → List Addr} {x : V} {t : T} (E : EnvR K env σ H F fp) (y : Yd K H F x H' t) : ∃ F', Same F F' ∧ EnvR K env σ H' F' fp ∧ Stp (fpOf env fp) H F (fpOf env fp) H' F' ∧ Den K F' x t := by
  rcases y with ⟨rfl, d⟩ | ⟨p, vs, ts, hp, rfl, rfl, rfl, d⟩
  · exact ⟨F, fun _ _ h => h, E, Stp.refl, d⟩
  · have hF := E.freeF hp
    have sF : Same F (upd F p (.tup vs)) := fun b x e => by rw [upd_ne (ne_of_none e hF)]; exact e
    exact ⟨_, sF, E.allocF hp, Stp.refl.allocF hp hF, .tup (.inl (.inl upd_same)) (d.mono sF)⟩

/-! # locks -/
theorem EnvR.lock {env : Env} {σ : L2.St} {fp : Nat → List Addr} (E : EnvR K env σ H F fp) (lk : Option Nat) : EnvR K (lockE env lk) σ H F fp ∧ (∀ a, (fpOf (lockE env lk) fp).own a → (fpOf env fp).own a) ∧ ∀ a, (fpOf (lockE env lk) fp).all a ↔ (fpOf env fp).all a := by
  cases lk with
  | none => exact ⟨E, fun _ h => h, fun _ => Iff.rfl⟩
  | some i =>
    simp only [lockE]
    split
    · rename_i o ei
      refine ⟨⟨fun j iv ej => ?_, fun j hj => ?_, E.dis, E.free, E.sub, by simpa using E.len⟩, fun a ⟨j, o', ej, hj⟩ => ?_, fun _ => Iff.rfl⟩
      · rcases get_set ej with ⟨rfl, h3, _⟩ | ⟨h3, h4⟩
        · cases h3
          obtain ⟨v, h1, h2⟩ := E.slot _ _ ei
          refine ⟨v, h1, ?_⟩
          generalize fp _ = l2 at h2 ⊢
          cases h2 with
          | own h2 => cases h2 with
            | lst q1 q2 => exact .lck (.lst q1 q2)
        · exact E.slot j iv h4
      · by_cases hji : i = j
        · subst hji
          have hi : i < env.length := (List.getElem?_eq_some_iff.mp ei).1
          exact absurd (by rw [List.getElem?_set_self hi]) (hj (.lck (.lst o)))
        · exact E.out j (get_set_none hj hji)
      · rcases get_set ej with ⟨_, h3, _⟩ | ⟨_, h4⟩
        · cases h3
        · exact ⟨j, o', h4, hj⟩
    · exact ⟨E, fun _ h => h, fun _ => Iff.rfl⟩
/-- unlocking -/
theorem EnvR.unlock {env : Env} {σ : L2.St} {fp : Nat → List Addr} (E : EnvR K env σ H F fp) (lk : Option Nat) : EnvR K (unlockE env lk) σ H F fp ∧
    (∀ a, (fpOf (unlockE env lk) fp).own a → (fpOf env fp).own a ∨ ∃ i, lk = some i ∧ (fpOf env fp).lk i a) ∧ ∀ i a, (fpOf (unlockE env lk) fp).lk i a → (fpOf env fp).lk i a ∧ (lk ≠ some i ∨ ∃ o, env[i]? = some (some (.lck (.dic o)))) := by
  cases lk with
  | none => exact ⟨E, fun _ h => .inl h, fun _ _ h => ⟨h, .inl (by simp)⟩⟩
  | some i =>
    simp only [unlockE]
    split
    · rename_i o ei
      refine ⟨⟨fun j iv ej => ?_, fun j hj => ?_, E.dis, E.free, E.sub, by simpa using E.len⟩, fun a ⟨j, o', ej, hj⟩ => ?_, fun j a ⟨o', ej, hj⟩ => ?_⟩
      · rcases get_set ej with ⟨rfl, h3, _⟩ | ⟨h3, h4⟩
        · cases h3
          obtain ⟨v, h1, h2⟩ := E.slot _ _ ei
          refine ⟨v, h1, ?_⟩
          generalize fp _ = l2 at h2 ⊢
          cases h2 with
          | lck h2 => cases h2 with
            | lst q1 q2 => exact .own (.lst q1 q2)
        · exact E.slot j iv h4
      · by_cases hji : i = j
        · subst hji
          have hi : i < env.length := (List.getElem?_eq_some_iff.mp ei).1
          exact absurd (by rw [List.getElem?_set_self hi]) (hj (.own (.lst o)))
        · exact E.out j (get_set_none hj hji)
      · rcases get_set ej with ⟨rfl, h3, _⟩ | ⟨_, h4⟩
        · exact .inr ⟨_, rfl, .lst o, ei, hj⟩
        · exact .inl ⟨j, o', h4, hj⟩
      · rcases get_set ej with ⟨_, h3, _⟩ | ⟨h3, h4⟩
        · cases h3
        · exact ⟨⟨o', h4, hj⟩, .inl (by simp only [ne_eq, Option.some.injEq]; exact h3)⟩
    · rename_i hno
      refine ⟨E, fun _ h => .inl h, fun j a ⟨o', ej, hj⟩ => ⟨⟨o', ej, hj⟩, ?_⟩⟩
      by_cases e : some i = some j
      · cases e
        cases o' with
        | lst o' => exact absurd ej (hno o')
        | dic o' => exact .inr ⟨o', ej⟩
        | obj nm o' =>
          obtain ⟨v, _, r⟩ := E.slot _ _ ej
          generalize fp _ = l2 at r
          cases r with
          | lck r => cases r
      · exact .inl e
theorem EnvR.lockLk {env : Env} {σ : L2.St} {fp : Nat → List Addr} (E : EnvR K env σ H F fp) (lk : Option Nat) : ∀ i a, (fpOf (lockE env lk) fp).lk i a → (fpOf env fp).lk i a ∨ (lk = some i ∧ (fpOf env fp).own a) := by
  cases lk with
  | none => exact fun _ _ h => .inl h
  | some j =>
    simp only [lockE]
    split
    · rename_i o ei
      rintro i a ⟨o', ej, hj⟩
      rcases get_set ej with ⟨rfl, h3, _⟩ | ⟨_, h4⟩
      · exact .inr ⟨rfl, _, .lst o, ei, hj⟩
      · exact .inl ⟨o', h4, hj⟩
    · exact fun _ _ h => .inl h
/-- a locked stretch: what was owned ahead may be owned behind -/
theorem Stp.locked {env env' : Env} {σ σ' : L2.St} {fp fp' : Nat → List Addr} {lk : Option Nat} (E : EnvR K env σ H F fp) (E' : EnvR K env' σ' H' F' fp') (hlk : ∀ i, lk = some i → ∃ o, env[i]? = some (some (.own o)))
    (s : Stp (fpOf (lockE env lk) fp) H F (fpOf env' fp') H' F') : Stp (fpOf env fp) H F (fpOf (unlockE env' lk) fp') H' F' := by
  obtain ⟨_, o1, a1⟩ := E.lock lk
  obtain ⟨_, o2, l2⟩ := E'.unlock lk
  have l1 := E.lockLk lk
  refine ⟨fun a o h hn => s.keep a o h fun z => hn (o1 a z), s.fz, fun a h => (s.nfz a h).imp id (Or.imp (o1 a) id), fun a h => ?_, fun a h => ?_, fun i a h => ?_⟩
  · rcases o2 a h with h | ⟨i, hi, h⟩
    · exact (s.own a h).imp (o1 a) id
    · rcases l1 i a (s.lk i a h) with ⟨o', q1, q2⟩ | ⟨_, q⟩
      · obtain ⟨o, q3⟩ := hlk i hi
        rw [q3] at q1
        cases q1
      · exact .inl q
  · have h' : (fpOf env' fp').all a := h
    exact (s.all a h').imp (fun z => (a1 a).mp z) id
  · obtain ⟨h1, h2⟩ := l2 i a h
    rcases l1 i a (s.lk i a h1) with q | ⟨q, _⟩
    · exact q
    · rcases h2 with h2 | ⟨od, hod⟩
      · exact absurd q h2
      · obtain ⟨ow, how⟩ := hlk i q
        obtain ⟨o3, g1, g2⟩ := s.lk i a h1
        obtain ⟨o4, g3, g4⟩ := h1
        rw [q] at g1 s
        cases ow with
        | dic ow => simp only [lockE, how] at g1; cases g1
        | obj nm ow => simp only [lockE, how] at g1; cases g1
        | lst ow =>
          obtain ⟨v, k1, k2⟩ := E.slot i _ how
          obtain ⟨v', k3, k4⟩ := E'.slot i _ hod
          have hi : i < env.length := (List.getElem?_eq_some_iff.mp how).1
          have no : ¬ (fpOf (lockE env (some i)) fp).own a := fun ⟨j, o5, ej, hj⟩ => by
            have := E.dis j i a hj g2
            subst this
            simp only [lockE, how] at ej
            rw [List.getElem?_set_self hi] at ej
            cases ej
          generalize hl : fp i = li at k2 g2
          generalize hl' : fp' i = li' at k4 g4
          cases k2 with
          | own k2 => cases k2 with
            | lst k5 k6 =>
              cases k4 with
              | lck k4 => cases k4 with
                | dic k7 k8 =>
                  simp at g2 g4
                  subst g2
                  have := s.keep _ _ k5 no
                  rw [← g4, this] at k7
                  cases k7
end
end G
namespace G
open PySem PySem.Spec PyProof.Rows L2

/-! # slots set, slots wiped -/
section
variable {K : PySem.W.Frag} {env env' : Env} {σ σ' : L2.St} {H F : Hp} {fp : Nat → List Addr}
theorem EnvR.setIv (E : EnvR K env σ H F fp) {i : Nat} {iv : Iv} {v : V} {l : List Addr} (hi : i < env.length) (h : IvR K H F v iv l) (hl : ∀ a ∈ l, F a = none ∧ ∀ j, j ≠ i → a ∉ fp j) :
    EnvR K (env.set i (some iv)) (σ.set i (some v)) H F (fun j => if j = i then l else fp j) := by
  refine ⟨fun j iv' ej => ?_, fun j hj => ?_, fun j k a ha hb => ?_, fun j a ha => ?_, E.sub, by simpa using E.len⟩
  · rcases get_set ej with ⟨rfl, h3, _⟩ | ⟨h3, h4⟩
    · cases h3
      refine ⟨v, by rw [List.getElem?_set_self (by rw [← E.len]; exact hi)], ?_⟩
      rw [if_pos rfl]
      exact h
    · obtain ⟨w, g1, g2⟩ := E.slot j iv' h4
      refine ⟨w, by rw [List.getElem?_set_ne h3]; exact g1, ?_⟩
      rw [if_neg (Ne.symm h3)]
      exact g2
  · by_cases hji : j = i
    · subst hji
      exact absurd (by rw [List.getElem?_set_self hi]) (hj iv)
    · show (if j = i then l else fp j) = []
      rw [if_neg hji]
      exact E.out j (get_set_none hj (Ne.symm hji))
  · have ha : a ∈ (if j = i then l else fp j) := ha
    have hb : a ∈ (if k = i then l else fp k) := hb
    split at ha
    · rename_i h1
      split at hb
      · rename_i h2; rw [h1, h2]
      · rename_i h2; exact absurd hb ((hl a ha).2 k h2)
    · rename_i h1
      split at hb
      · exact absurd ha ((hl a hb).2 j h1)
      · exact E.dis j k a ha hb
  · have ha : a ∈ (if j = i then l else fp j) := ha
    split at ha
    · exact (hl a ha).1
    · exact E.free j a ha
/-- a frozen value stored: less is owned -/
theorem EnvR.setVal (E : EnvR K env σ H F fp) {i : Nat} {t : T} {v : V} (hi : i < env.length) (h : Den K F v t) :
    EnvR K (env.set i (some (.val t))) (σ.set i (some v)) H F (fun j => if j = i then [] else fp j) ∧ Stp (fpOf env fp) H F (fpOf (env.set i (some (.val t))) fun j => if j = i then [] else fp j) H F := by
  refine ⟨E.setIv hi (.val h) fun a ha => by simp at ha, fun _ _ h _ => h, fun _ _ h => h, fun _ h => .inl h, fun a ⟨j, o, ej, hj⟩ => ?_, fun a ⟨j, hj⟩ => ?_, fun j a ⟨o, ej, hj⟩ => ?_⟩
  · have hj : a ∈ (if j = i then [] else fp j) := hj
    split at hj
    · simp at hj
    · rename_i hji
      rcases get_set ej with ⟨h3, _⟩ | ⟨_, h4⟩
      · exact absurd h3.symm hji
      · exact .inl ⟨j, o, h4, hj⟩
  · have hj : a ∈ (if j = i then [] else fp j) := hj
    split at hj
    · simp at hj
    · exact .inl ⟨j, hj⟩
  · have hj : a ∈ (if j = i then [] else fp j) := hj
    split at hj
    · simp at hj
    · rename_i hji
      rcases get_set ej with ⟨h3, _⟩ | ⟨_, h4⟩
      · exact absurd h3.symm hji
      · exact ⟨o, h4, hj⟩
/-- only these slots were set -/
structure SetOnly (is : List Nat) (fx : Nat → Bool) (σ σ' : L2.St) : Prop where
  out : ∀ j, j ∉ is → σ'[j]? = σ[j]?
  fix : ∀ j, fx j = true → σ'[j]? = σ[j]?
  len : σ'.length = σ.length
def gNames : List Nat → TGs
  | [] => gNil
  | i :: is => gCons (gName i) (gNames is)
def gTgt (K : PySem.W.Frag) : Tgt → TG
  | .name i => gName i
  | .tup is => gTup K is.length (gNames is)
def tgIs : Tgt → List Nat
  | .name i => [i]
  | .tup is => is
theorem bindAll_ok {fx : Nat → Bool} : ∀ {is : List Nat} {ts : List T} {vs : List V} {env : Env} {σ : L2.St} {fp : Nat → List Addr} {Q : L2.St → Hp → Prop}, EnvR K env σ H F fp → DenAll K F vs ts → bindAll fx is ts env = some env' →
    (∀ σ' fp', EnvR K env' σ' H F fp' → Stp (fpOf env fp) H F (fpOf env' fp') H F → SetOnly is fx σ σ' → Q σ' H) → gNames is vs σ H Q
  | [], [], vs, env, σ, fp, Q, E, d, e, k => by
    cases d
    cases e
    exact ⟨rfl, k σ fp E Stp.refl ⟨fun _ _ => rfl, fun _ _ => rfl, rfl⟩⟩
  | i :: is, t :: ts, vs, env, σ, fp, Q, E, d, e, k => by
    cases d with
    | @cons v vs _ _ d ds =>
      simp only [bindAll] at e
      split at e
      · rename_i hi
        obtain ⟨E1, s1⟩ := E.setVal hi.1 d
        refine ⟨v, vs, rfl, ?_⟩
        refine bindAll_ok E1 ds e fun σ' fp' E' s' so => k σ' fp' E' (s1.trans s') ⟨fun j hj => ?_, fun j hj => ?_, ?_⟩
        · rw [so.out j fun h => hj (List.mem_cons_of_mem _ h), List.getElem?_set_ne]
          intro h; exact hj (by rw [h]; exact List.mem_cons_self)
        · rw [so.fix j hj, List.getElem?_set_ne]
          intro h; rw [h] at hi; rw [hi.2] at hj; cases hj
        · rw [so.len, List.length_set]
      · cases e
  | [], _ :: _, _, _, _, _, _, _, _, e, _ => by simp [bindAll] at e
  | _ :: _, [], _, _, _, _, _, _, _, e, _ => by simp [bindAll] at e
theorem bindAll_len {fx : Nat → Bool} : ∀ {is : List Nat} {ts : List T} {env env' : Env}, bindAll fx is ts env = some env' → ts.length = is.length
  | [], [], _, _, _ => rfl
  | i :: is, t :: ts, env, env', e => by
    simp only [bindAll] at e
    split at e
    · rw [List.length_cons, List.length_cons, bindAll_len e]
    · cases e
  | [], _ :: _, _, _, e => by simp [bindAll] at e
  | _ :: _, [], _, _, e => by simp [bindAll] at e
theorem tgt_ok {fx : Nat → Bool} {tg : Tgt} {t : T} {v : V} {Q : L2.St → Hp → Prop} (E : EnvR K env σ H F fp) (d : Den K F v t) (e : bindT fx tg t env = some env')
    (k : ∀ σ' fp', EnvR K env' σ' H F fp' → Stp (fpOf env fp) H F (fpOf env' fp') H F → SetOnly (tgIs tg) fx σ σ' → Q σ' H) : gTgt K tg v σ H Q := by
  cases tg with
  | name i =>
    obtain ⟨_, _, h1, h2⟩ := bindAll_ok (Q := Q) E (DenAll.one d) e k
    cases h1
    exact h2.2
  | tup is =>
    cases t with
    | tup ts =>
      simp only [bindT] at e
      obtain ⟨a, vs, rfl, ha, ds⟩ := d.tup'
      exact ⟨a, vs, rfl, same_t E.sub ha, by rw [ds.length]; exact bindAll_len e, bindAll_ok E ds e k⟩
    | _ => simp [bindT] at e
theorem wipe_get {σ : L2.St} {i : Nat} : ∀ {vs : List Nat}, (wipe σ vs)[i]? = if i ∈ vs then (if i < σ.length then some none else none) else σ[i]?
  | [] => by simp [wipe]
  | v :: vs => by
    unfold wipe
    rw [List.getElem?_set, wipe_length, wipe_get (vs := vs)]
    by_cases h : v = i
    · subst h; simp
    · rw [if_neg h]
      have : i ∈ v :: vs ↔ i ∈ vs := by simp [Ne.symm h]
      simp only [this]
theorem wipe_congr {vs : List Nat} (h : ∀ j, j ∉ vs → σ'[j]? = σ[j]?) (hl : σ'.length = σ.length) : wipe σ' vs = wipe σ vs := by
  apply List.ext_getElem?
  intro i
  rw [wipe_get, wipe_get, hl]
  split
  · rfl
  · exact h i (by assumption)
theorem wipe_wipe {vs : List Nat} : wipe (wipe σ vs) vs = wipe σ vs := wipe_congr (fun j hj => by rw [wipe_get, if_neg hj]) (wipe_length _ _)
theorem wipeE_eq {env : Env} : ∀ {vs : List Nat}, (wipeE env vs).length = env.length
  | [] => rfl
  | v :: vs => by unfold wipeE; rw [List.length_set, wipeE_eq]
theorem wipeE_get {env : Env} {i : Nat} : ∀ {vs : List Nat}, (wipeE env vs)[i]? = if i ∈ vs then (if i < env.length then some none else none) else env[i]?
  | [] => by simp [wipeE]
  | v :: vs => by
    unfold wipeE
    rw [List.getElem?_set, wipeE_eq, wipeE_get (vs := vs)]
    by_cases h : v = i
    · subst h; simp
    · rw [if_neg h]
      have : i ∈ v :: vs ↔ i ∈ vs := by simp [Ne.symm h]
      simp only [this]
theorem wipeE_some {env : Env} {i : Nat} {vs : List Nat} {iv : Iv} (h : (wipeE env vs)[i]? = some (some iv)) : i ∉ vs ∧ env[i]? = some (some iv) := by
  rw [wipeE_get] at h
  split at h
  · split at h <;> cases h
  · exact ⟨by assumption, h⟩
/-- wiping -/
theorem EnvR.wipe (E : EnvR K env σ H F fp) (vs : List Nat) : EnvR K (wipeE env vs) (L2.wipe σ vs) H F (fun j => if j ∈ vs then [] else fp j) ∧ Stp (fpOf env fp) H F (fpOf (wipeE env vs) fun j => if j ∈ vs then [] else fp j) H F := by
  refine ⟨⟨fun j iv ej => ?_, fun j hj => ?_, fun j k a ha hb => ?_, fun j a ha => ?_, E.sub, by rw [wipeE_eq, wipe_length]; exact E.len⟩, fun _ _ h _ => h, fun _ _ h => h, fun _ h => .inl h, fun a ⟨j, o, ej, hj⟩ => ?_, fun a ⟨j, hj⟩ => ?_, fun j a ⟨o, ej, hj⟩ => ?_⟩
  · obtain ⟨h1, h2⟩ := wipeE_some ej
    obtain ⟨v, g1, g2⟩ := E.slot j iv h2
    exact ⟨v, by rw [wipe_get, if_neg h1]; exact g1, by rw [if_neg h1]; exact g2⟩
  · show (if j ∈ vs then [] else fp j) = []
    split
    · rfl
    · rename_i h1
      refine E.out j fun iv e => hj iv ?_
      rw [wipeE_get, if_neg h1]; exact e
  · have ha : a ∈ (if j ∈ vs then [] else fp j) := ha
    have hb : a ∈ (if k ∈ vs then [] else fp k) := hb
    split at ha
    · simp at ha
    · split at hb
      · simp at hb
      · exact E.dis j k a ha hb
  · have ha : a ∈ (if j ∈ vs then [] else fp j) := ha
    split at ha
    · simp at ha
    · exact E.free j a ha
  · have hj : a ∈ (if j ∈ vs then [] else fp j) := hj
    split at hj
    · simp at hj
    · exact .inl ⟨j, o, (wipeE_some ej).2, hj⟩
  · have hj : a ∈ (if j ∈ vs then [] else fp j) := hj
    split at hj
    · simp at hj
    · exact .inl ⟨j, hj⟩
  · have hj : a ∈ (if j ∈ vs then [] else fp j) := hj
    split at hj
    · simp at hj
    · exact ⟨o, (wipeE_some ej).2, hj⟩
/-- wiped slots may hold anything -/
theorem EnvR.unwipe {vs : List Nat} (E : EnvR K (wipeE env vs) (L2.wipe σ vs) H F fp) : EnvR K (wipeE env vs) σ H F fp := by
  refine ⟨fun j iv ej => ?_, E.out, E.dis, E.free, E.sub, by rw [E.len, wipe_length]⟩
  obtain ⟨v, g1, g2⟩ := E.slot j iv ej
  rw [wipe_get, if_neg (wipeE_some ej).1] at g1
  exact ⟨v, g1, g2⟩
/-- a thing apart is written -/
theorem EnvR.updTmp (E : EnvR K env σ H F fp) {D : Addr} {o : HO} (hD : ¬ (fpOf env fp).all D) (hF : F D = none) : EnvR K env σ (upd H D o) F fp := by
  have ne : ∀ i a, a ∈ fp i → a ≠ D := fun i a ha e => hD ⟨i, e ▸ ha⟩
  refine ⟨fun i iv e => ?_, E.out, E.dis, E.free, fun b x e => ?_, E.len⟩
  · obtain ⟨v, h1, h2⟩ := E.slot i iv e
    exact ⟨v, h1, h2.keep (fun a ha => upd_ne (ne i a ha)) (fun _ _ h => h)⟩
  · rw [upd_ne (ne_of_none e hF)]
    exact E.sub b x e
theorem Stp.updNew {P P' : Fp} {H' F' : Hp} (s : Stp P H F P' H' F') {D : Addr} {o : HO} (hD : H D = none) : Stp P H F P' (upd H' D o) F' :=
  ⟨fun a x e hn => by rw [upd_ne (ne_of_none e hD)]; exact s.keep a x e hn, s.fz, s.nfz, s.own, s.all, s.lk⟩
end

/-! # comprehensions -/
def W0 : WX := fun _ _ _ _ => False
def tSrc (K : PySem.W.Frag) (W : WX) (m : Env → Out (List T × Option Nat)) : TI := fun σ H R => ∃ env F fp, EnvR K env σ H F fp ∧
  (m env).asks K W σ H F (fpOf env fp) fun it env' H' F' fp' => ∀ J Std, SrcOk K J it.1 Std → Std (fpOf (lockE env' it.2) fp') H' F' → (∀ i, it.2 = some i → ∃ o, env'[i]? = some (some (.own o))) → R J H'
def lcStep (tg : Tgt) (cond : Env → Out Bool) (elt : Env → Out R) (vs : List Nat) : T → Env → Out (Option T) := fun t e => match bindT (fun _ => false) tg t (wipeE e vs) with
        | none => .stuck
        | some e2 => noexc ((cond e2).bind fun k e3 => if k then (elt e3).bind fun r e4 => ofO ((esc e4 r).map some) e4 else .ok none e3)
def mLc (src : Env → Out (List T × Option Nat)) (tg : Tgt) (cond : Env → Out Bool) (elt : Env → Out R) (vs : List Nat) : Env → Out R := fun env => (src env).bind fun it e1 =>
      (lcLoop (lcStep tg cond elt vs) it.1 [] (lockE e1 it.2)).bind fun acc e5 => .ok (.new (.lst acc)) (unlockE (wipeE e5 vs) it.2)
theorem noexc_ok {α : Type} {o : Out α} {a : α} {e : Env} (h : noexc o = .ok a e) : o = .ok a e := by
  cases o with
  | ok b e' => exact h
  | exc _ _ => cases h
  | stuck => cases h
theorem lc_imp {K : PySem.W.Frag} {W : WX} {src : Env → Out (List T × Option Nat)} {tg : Tgt} {cond : Env → Out Bool} {elt : Env → Out R} {vs : List Nat} {σ : L2.St} {H : Hp} {Q : VK} (htg : ∀ i ∈ tgIs tg, i ∈ vs)
    (h : tE K W (mLc src tg cond elt vs) σ H Q) : tLc (tSrc K W src) (gTgt K tg) (G.tB K W0 cond) (tE K W0 elt) vs σ H Q := by
  obtain ⟨env, F, fp, E, q⟩ := h
  refine ⟨env, F, fp, E, ?_⟩
  unfold mLc at q
  cases es : src env with
  | stuck => rw [es] at q; exact q
  | exc x env' => rw [es] at q; exact q
  | ok it e1 =>
    rw [es] at q
    replace q : ((lcLoop (lcStep tg cond elt vs) it.1 [] (lockE e1 it.2)).bind fun acc e5 => Out.ok (R.new (.lst acc)) (unlockE (wipeE e5 vs) it.2)).asks K W σ H F (fpOf env fp) (Ask K σ H (fpOf env fp) Q) := q
    intro H1 F1 fp1 E1 s1 J Std ok std hlk D hD
    obtain ⟨E2, o2, a2⟩ := E1.lock it.2
    have F1D : F1 D = none := E1.freeF hD
    -- the invariant at the i-th turn
    refine ⟨fun i m H' => m = it.1.length - i ∧ i ≤ it.1.length ∧ ∃ e F' fp' accV acc, EnvR K (wipeE e vs) (L2.wipe σ vs) H' F' fp' ∧ Stp (fpOf (lockE e1 it.2) fp1) H1 F1 (fpOf (wipeE e vs) fp') H' F' ∧ H' D = some (.lst accV) ∧ DenAll K F' accV acc ∧ F' D = none ∧
      ¬ (fpOf (wipeE e vs) fp').all D ∧ ((lcLoop (lcStep tg cond elt vs) (it.1.drop i) acc e).bind fun acc e5 => Out.ok (R.new (.lst acc)) (unlockE (wipeE e5 vs) it.2)).asks K W σ H F (fpOf env fp) (Ask K σ H (fpOf env fp) Q), ⟨it.1.length, ?_⟩, ?_⟩
    · obtain ⟨E3, s3⟩ := (E2.alloc (o := .lst []) hD).wipe vs
      refine ⟨rfl, Nat.zero_le _, lockE e1 it.2, F1, _, [], [], E3, (Stp.refl.alloc hD).trans s3, upd_same, .nil, F1D, fun ⟨j, hj⟩ => ?_, q⟩
      have hj : D ∈ (if j ∈ vs then [] else fp1 j) := hj
      split at hj
      · simp at hj
      · exact E1.here j D hj hD
    · rintro i m H' ⟨rfl, hi, e, F', fp', accV, acc, E3, s3, hDa, dacc, hFD, hnD, qi⟩
      have std3 := ok.step _ _ _ _ _ _ std s3
      by_cases hlt : i < it.1.length
      · -- a turn
        refine .inr ⟨ok.go i _ _ _ std3 E3.sub hlt, fun H'' => ∃ e F' fp' accV acc, EnvR K (wipeE e vs) (L2.wipe σ vs) H'' F' fp' ∧ Stp (fpOf (lockE e1 it.2) fp1) H1 F1 (fpOf (wipeE e vs) fp') H'' F' ∧ H'' D = some (.lst accV) ∧ DenAll K F' accV acc ∧ F' D = none ∧
          ¬ (fpOf (wipeE e vs) fp').all D ∧ ((lcLoop (lcStep tg cond elt vs) (it.1.drop (i + 1)) acc e).bind fun acc e5 => Out.ok (R.new (.lst acc)) (unlockE (wipeE e5 vs) it.2)).asks K W σ H F (fpOf env fp) (Ask K σ H (fpOf env fp) Q), fun H'' hN => ⟨it.1.length - (i + 1), by omega, rfl, hlt, hN⟩, fun x H4 y => ?_⟩
        have ed : it.1.drop i = it.1[i] :: it.1.drop (i + 1) := List.drop_eq_getElem_cons hlt
        rw [ed] at qi
        have yd := ok.yld i _ _ _ x H4 it.1[i] std3 E3.sub y (List.getElem?_eq_getElem hlt)
        obtain ⟨F4, sF, E4, s4, d4⟩ := yd.to E3
        -- the step's outcome
        cases hst : lcStep tg cond elt vs it.1[i] e with
        | stuck => simp only [lcLoop, hst] at qi; exact qi.elim
        | exc x' e' =>
          unfold lcStep at hst
          split at hst
          · cases hst
          · rename_i e2 _
            cases hz : ((cond e2).bind fun k e3 => if k then (elt e3).bind fun r e4 => ofO ((esc e4 r).map some) e4 else .ok none e3) <;> rw [hz] at hst <;> cases hst
        | ok o e5 =>
          have qi' : ((match o with
            | some x => if acc.length < sizeLine then lcLoop (lcStep tg cond elt vs) (it.1.drop (i + 1)) (acc ++ [x]) e5 else .stuck
            | none => lcLoop (lcStep tg cond elt vs) (it.1.drop (i + 1)) acc e5).bind fun acc e5 => Out.ok (R.new (.lst acc)) (unlockE (wipeE e5 vs) it.2)).asks K W σ H F (fpOf env fp) (Ask K σ H (fpOf env fp) Q) := by
            have z := qi
            simp only [lcLoop, hst] at z
            exact z
          clear qi
          unfold lcStep at hst
          cases hb : bindT (fun _ => false) tg it.1[i] (wipeE e vs) with
          | none => rw [hb] at hst; cases hst
          | some e2 =>
            rw [hb] at hst
            obtain ⟨k, e3, hc, hst⟩ := bind_ok (noexc_ok hst)
            refine tgt_ok E4 d4 hb fun σ2 fp2 E5 s5 so => ?_
            have hw : L2.wipe σ2 vs = L2.wipe σ vs := by
              rw [wipe_congr (σ := L2.wipe σ vs) (fun j hj => so.out j fun z => hj (htg j z)) so.len, wipe_wipe]
            refine ⟨hw, e2, F4, fp2, E5, ?_⟩
            rw [hc]
            intro H6 F6 fp6 E6 s6
            have s36 : Stp (fpOf (wipeE e vs) fp') H' F' (fpOf e3 fp6) H6 F6 := (s4.trans s5).trans s6
            have s16 := s3.trans s36
            have hD0 : H' D ≠ none := by rw [hDa]; simp
            obtain ⟨g1, g2, g3⟩ := s36.fresh hD0 hnD hFD
            cases k with
            | false =>
              rw [if_neg Bool.false_ne_true] at hst
              refine iteF ?_
              cases hst
              obtain ⟨E7, s7⟩ := E6.wipe vs
              rw [hw] at E7
              refine ⟨_, F6, _, accV, acc, E7, s16.trans s7, by rw [g1]; exact hDa, dacc.mono s36.fz, g2, fun ⟨j, hj⟩ => ?_, qi'⟩
              have hj : D ∈ (if j ∈ vs then [] else fp6 j) := hj
              split at hj
              · simp at hj
              · exact g3 ⟨j, hj⟩
            | true =>
              rw [if_pos rfl] at hst
              refine iteT ?_
              obtain ⟨r, e4, he, hst⟩ := bind_ok hst
              obtain ⟨hesc, he5⟩ := ofO_ok hst
              subst he5
              obtain ⟨t, het, rfl⟩ := Option.map_eq_some_iff.mp hesc
              refine ⟨e3, F6, fp6, E6, ?_⟩
              rw [he]
              intro H7 F7 fp7 E7 s7 y7 l rr tm
              obtain ⟨F8, sF8, d8, E8, s8, n8⟩ := esc_ok rr E7 tm s7 het
              have s38 := s36.trans s8
              obtain ⟨k1, k2, k3⟩ := s38.fresh hD0 hnD hFD
              simp only at qi'
              split at qi'
              · rename_i hz
                have hD8 : H7 D = some (.lst accV) := by rw [k1]; exact hDa
                have dacc8 := dacc.mono s38.fz
                refine ⟨accV, hD8, by rw [dacc8.length]; exact hz, ?_⟩
                obtain ⟨E9, s9⟩ := (E8.updTmp (o := .lst (accV ++ [y7])) k3 k2).wipe vs
                rw [hw] at E9
                refine ⟨e4, F8, _, accV ++ [y7], acc ++ [t], E9, ((s3.trans s38).updNew hD).trans s9, upd_same, dacc8.append (.one d8), k2, fun ⟨j, hj⟩ => ?_, qi'⟩
                have hj : D ∈ (if j ∈ vs then [] else fp7 j) := hj
                split at hj
                · simp at hj
                · exact k3 ⟨j, hj⟩
              · exact qi'.elim
      · -- the end
        have ei : i = it.1.length := by omega
        subst ei
        refine .inl ⟨ok.stop _ _ _ _ std3 E3.sub (Nat.le_refl _), ?_⟩
        rw [List.drop_length] at qi
        have qi : (Out.ok (R.new (.lst acc)) (unlockE (wipeE e vs) it.2)).asks K W σ H F (fpOf env fp) (Ask K σ H (fpOf env fp) Q) := qi
        have E4 := E3.unwipe
        have s4 := Stp.locked E1 E4 hlk s3
        refine qi H' F' fp' (E4.unlock it.2).1 (s1.trans s4) (.ref D) [D] (.new (.lst hDa dacc)) fun a ha => ?_
        simp at ha
        subst ha
        exact ⟨hFD, hnD, s1.back hD⟩
end G
namespace G
open PySem PySem.Spec PyProof.Rows L2
section
variable {X : Cx} {W : WX} {a b tg : Expr} {ma mb : Env → Out R} {pos p : Pos}

/-- a list, a tuple or a text, whichever comes -/
def iAny (K : PySem.W.Frag) (tl : TE) : TI := fun σ H R => tl σ H fun x H1 => (∃ a, x = .ref a ∧ (∃ xs, SqL K H1 a xs) ∧ R (Itl K a) H1) ∨ (∃ a, x = .ref a ∧ (∃ xs, SqT K H1 a xs) ∧ R (Itt K a) H1) ∨ (∃ z, x = .str z ∧ R (Its z) H1) ∨ ∃ d o kvs, x = .ref d ∧ H1 d = some (.frz o (.dK kvs)) ∧ R (Itk d o kvs) H1
theorem pi_any {tl : TE} (hl : PE X a tl) : PI X tg a (iAny X.K tl) := by
  constructor
  intro pins s σ H R I h
  refine thn (hl.run pins s σ H _ I h) ?_
  rintro v s1 ⟨x, H1, I1, r1, hx⟩
  have new : ∀ (b : Addr), b ∈ [s1.heap.objs.size] → FpOk X pins H1 b := fun b hb => by
    simp only [List.mem_singleton] at hb
    rw [hb]
    exact I1.fpOk (Nat.le_refl _) (I1.hok.fresh (Nat.le_refl _))
  rcases hx with ⟨q, rfl, ⟨xs, hq⟩, k⟩ | ⟨q, rfl, ⟨xs, hq⟩, k⟩ | ⟨z, rfl, k⟩ | ⟨d, o, kvs, rfl, hd, k⟩
  · cases r1
    obtain ⟨us, ru, pl, _⟩ := I1.list hq
    exact wpAny_pyIter_list pl.isList ⟨_, _, _, _, H1, rfl, I1.kept (t' := s1.toks) fun c u e => Heap.get?_push_of_some _ e, turn_list q _, ⟨_, Heap.get?_push_size _ rfl, rfl, rfl⟩, new, k⟩
  · cases r1
    obtain ⟨us, ru, pl, _⟩ := I1.tuple hq
    have pt : s1.heap.IsTuple q us.toArray := pl
    exact wpAny_pyIter_tuple pt ⟨_, _, _, _, H1, rfl, I1.kept (t' := s1.toks) fun c u e => Heap.get?_push_of_some _ e, turn_tuple q _, ⟨_, Heap.get?_push_size _ rfl, rfl, rfl⟩, new, k⟩
  · obtain ⟨t, rfl⟩ := r1
    cases hz : z.cps.all (· < 128) with
    | false => exact wpAny_pyIter_wide hz (pi_one (tk := s1.toks) I1 _ (turn_str _ z t "str_iterator" (Or.inr rfl)) ⟨_, Heap.get?_push_size _ rfl, rfl, rfl⟩ k)
    | true => exact wpAny_pyIter_ascii hz (pi_one (tk := s1.toks) I1 _ (turn_str _ z t "str_ascii_iterator" (Or.inl rfl)) ⟨_, Heap.get?_push_size _ rfl, rfl, rfl⟩ k)
  · cases r1
    obtain ⟨g1, g2, g3, es, ep, vs, g4, g5, kv, hm⟩ := I1.frzK hd
    exact iter_keys g1 g2 g3 g4 (pi_one (tk := s1.toks) I1 _ (turn_keys _ g4) ⟨_, Heap.get?_push_size _ rfl, rfl, by rw [g5]; rfl⟩ k)
theorem pi_imp {wi wi' : TI} (h : PI X tg a wi) (k : ∀ σ H R, wi' σ H R → wi σ H R) : PI X tg a wi' := ⟨fun pins s σ H R I q => h.run pins s σ H R I (k σ H R q)⟩
theorem lockOf_own {env : Env} {r : R} {i : Nat} (h : lockOf env r = some i) : r = .loan i ∧ ∃ o, env[i]? = some (some (.own o)) := by
  cases r with
  | loan j =>
    simp only [lockOf] at h
    split at h
    · rename_i o e
      cases h
      exact ⟨rfl, .lst o, e⟩
    · cases h
  | _ => cases h
/-- what stands of a thing that is walked -/
theorem lstd_of {K : PySem.W.Frag} {σ : L2.St} {env : Env} {H F H0 : Hp} {P0 : Fp} {fp : Nat → List Addr} {r : R} {v : V} {l : List Addr} {t : T} {xs : List T} (E : EnvR K env σ H F fp) (rr : RR K σ H F r v l) (tm : Tmp H0 P0 F (fpOf env fp) l)
    (e : lookT env r = some t) (es : seqL t = some xs) : ∃ a vs, v = .ref a ∧ SqL K H a vs ∧ DenAll K F vs xs ∧ LStd K a vs (fpOf (lockE env (lockOf env r)) fp) H := by
  obtain ⟨E2, o2, a2⟩ := E.lock (lockOf env r)
  have less : ∀ {a o}, Stands (fpOf env fp) H a o → Stands (fpOf (lockE env (lockOf env r)) fp) H a o := fun h => ⟨h.1, fun z => h.2 (o2 _ z)⟩
  have fz : Den K F v t → ∃ a vs, v = .ref a ∧ SqL K H a vs ∧ DenAll K F vs xs ∧ LStd K a vs (fpOf (lockE env (lockOf env r)) fp) H := by
    intro d
    obtain ⟨a, vs, rfl, ha, da⟩ := d.seqL es
    refine ⟨a, vs, rfl, E.sub.seq ha, da, ?_⟩
    rcases LStd.of E ha with ⟨o, h1, h2⟩ | h
    · exact .inl ⟨o, less h1, h2⟩
    · exact .inr h
  cases rr with
  | val d => simp [lookT, G.look] at e; subst e; exact fz d
  | new d =>
    simp only [lookT, G.look, Option.map_some, Option.some.injEq, toT] at e
    subst e
    cases d with
    | @lst a vs ts ha da =>
      simp only [frz, seqL, Option.some.injEq] at es
      subst es
      refine ⟨a, vs, rfl, .inl (.inl ha), da, .inl ⟨_, less ⟨ha, fun z => ?_⟩, .inl rfl⟩⟩
      exact (tm a (by simp)).2.1 ((fpOf env fp).sub a z)
    | dic ha da => simp [frz, seqL] at es
    | obj ha hc da => simp [frz, seqL] at es
  | @loan _ i hi =>
    cases ei : env[i]? with
    | none => simp [lookT, G.look, ei] at e
    | some iv =>
      cases iv with
      | none => simp [lookT, G.look, ei] at e
      | some iv =>
        obtain ⟨v', g1, g2⟩ := E.slot i iv ei
        rw [hi] at g1
        cases g1
        simp only [lookT, G.look, ei, Option.map_some, Option.some.injEq] at e
        subst e
        generalize hl : fp i = li at g2
        cases g2 with
        | val d => exact fz d
        | own d =>
          cases d with
          | @lst a vs ts ha da =>
            simp only [toT, frz, seqL, Option.some.injEq] at es
            subst es
            refine ⟨a, vs, rfl, .inl (.inl ha), da, .inl ⟨_, ⟨ha, fun ⟨j, o, ej, hj⟩ => ?_⟩, .inl rfl⟩⟩
            have hji := E.dis j i a hj (by rw [hl]; simp)
            subst hji
            simp only [lockOf, ei, lockE] at ej
            rw [List.getElem?_set_self (List.getElem?_eq_some_iff.mp ei).1] at ej
            cases ej
          | dic ha da => simp [toT, frz, seqL] at es
          | obj ha hc da => simp [toT, frz, seqL] at es
        | lck d =>
          cases d with
          | @lst a vs ts ha da =>
            simp only [toT, frz, seqL, Option.some.injEq] at es
            subst es
            refine ⟨a, vs, rfl, .inl (.inl ha), da, .inl ⟨_, less ⟨ha, fun ⟨j, o, ej, hj⟩ => ?_⟩, .inl rfl⟩⟩
            have hji := E.dis j i a hj (by rw [hl]; simp)
            subst hji
            rw [ei] at ej
            cases ej
          | dic ha da => simp [toT, frz, seqL] at es
def mSeq (ma : Env → Out R) : Env → Out (List T × Option Nat) := fun env => (ma env).bind fun r e1 => match dicOf e1 r with
    | some kts => .ok (keysT kts, none) e1
    | none => ofO ((lookT e1 r).bind fun t => (seqI t).map fun xs => (xs, lockOf e1 r)) e1
theorem src_keys {K : PySem.W.Frag} {d : Addr} {o : Obj} {F0 : Hp} {kvs : List (Key × V)} {kts : List (Key × T)} (dk : DenKV K F0 kvs kts) : SrcOk K (Itk d o kvs) (keysT kts) fun P H _ => Stands P H d (.frz o (.dK kvs)) where
  go := fun i P H F h _ hi => ⟨h.1, by rw [dk.length]; simpa [keysT] using hi⟩
  stop := fun i P H F h _ hi => ⟨h.1, by rw [dk.length]; simpa [keysT] using hi⟩
  yld := fun i P H F x H' t _ _ y e => by
    obtain ⟨rfl, k, v, ek, rfl⟩ := y
    unfold keysT at e
    rw [List.getElem?_map] at e
    have hk := congrArg (fun l : List Key => l[i]?) dk.keys
    simp only [List.getElem?_map, ek, Option.map_some] at hk
    cases et : kts[i]? with
    | none => rw [et] at e; cases e
    | some kt =>
      rw [et] at e hk
      simp only [Option.map_some, Option.some.injEq] at e hk
      subst e
      rw [← hk]
      left
      refine ⟨rfl, ?_⟩
      cases k with
      | inl i => exact .int _
      | inr s => exact .str _
  step := fun P H F P' H' F' h s => h.step s
theorem pi_seq (ha : PE X a (tE X.K W ma)) : PI X tg a (tSrc X.K W (mSeq ma)) := by
  refine pi_imp (pi_any ha) fun σ H R0 ⟨env, F, fp, E, q⟩ => ?_
  refine tE_intro E Stp.refl q fun r e1 H1 F1 fp1 v l E1 s1 rr tm q1 => ?_
  cases hdd : dicOf e1 r with
  | some kts =>
    rw [hdd] at q1
    cases r with
    | loan i =>
      simp only [dicOf] at hdd
      split at hdd
      · rename_i kts' ei
        cases hdd
        obtain ⟨v', k1, k2⟩ := E1.slot i _ ei
        cases rr with
        | loan k3 =>
          rw [k3] at k1
          cases k1
          generalize hl : fp1 i = li at k2
          cases k2 with
          | lck k2 => cases k2 with
            | @dic a ob kvs _ k4 k5 =>
              refine .inr (.inr (.inr ⟨a, ob, kvs, rfl, k4, q1 H1 F1 fp1 E1 s1 _ _ (src_keys k5) ⟨k4, fun ⟨j, o, ej, hj⟩ => ?_⟩ (fun i h => by cases h)⟩))
              have := E1.dis j i a hj (by rw [hl]; exact List.mem_cons_self)
              subst this
              have ej : e1[j]? = some (some (.own o)) := ej
              rw [ei] at ej
              cases ej
      · cases hdd
    | _ => cases hdd
  | none =>
  rw [hdd] at q1
  obtain ⟨it, e, q2⟩ := ofO_asks q1
  simp only [Option.bind_eq_some_iff, Option.map_eq_some_iff] at e
  obtain ⟨t, et, xs, ex, rfl⟩ := e
  have q3 := q2 H1 F1 fp1 E1 s1
  have hlk : ∀ i, (xs, lockOf e1 r).2 = some i → ∃ o, e1[i]? = some (some (.own o)) := fun i hi => (lockOf_own hi).2
  have lists : seqL t = some xs → ((∃ a, v = .ref a ∧ (∃ xs, SqL X.K H1 a xs) ∧ R0 (Itl X.K a) H1) ∨ (∃ a, v = .ref a ∧ (∃ xs, SqT X.K H1 a xs) ∧ R0 (Itt X.K a) H1) ∨ (∃ z, v = .str z ∧ R0 (Its z) H1) ∨ ∃ d o kvs, v = .ref d ∧ H1 d = some (.frz o (.dK kvs)) ∧ R0 (Itk d o kvs) H1) := fun es => by
    obtain ⟨a, vs, rfl, h1, h2, h3⟩ := lstd_of E1 rr tm et es
    exact Or.inl ⟨a, rfl, ⟨vs, h1⟩, q3 (Itl X.K a) _ (src_list F1 h2) ⟨h3, fun _ _ h => h⟩ hlk⟩
  cases t with
  | lst ys => exact lists ex
  | rlst ys => exact lists ex
  | tup ys =>
    simp only [seqI, Option.some.injEq] at ex
    subst ex
    obtain ⟨a, vs, rfl, h1, h2⟩ := (rr.vr E1 et).tupF.tup'
    obtain ⟨E2, o2, a2⟩ := E1.lock (lockOf e1 r)
    refine .inr (.inl ⟨a, rfl, ⟨vs, same_t E1.sub h1⟩, q3 (Itt X.K a) _ (src_tup F1 h2) ⟨?_, fun _ _ h => h⟩ hlk⟩)
    rcases TStd.of E1 h1 with ⟨o, h3, h4⟩ | h
    · exact .inl ⟨o, ⟨h3.1, fun z => h3.2 (o2 _ z)⟩, h4⟩
    · exact .inr h
  | str z =>
    simp only [seqI, Option.some.injEq] at ex
    subst ex
    exact .inr (.inr (.inl ⟨z, (rr.vr E1 et).is_str, q3 (Its z) _ (src_str z) trivial hlk⟩))
  | _ => simp [seqI] at ex
theorem pi_rng1 (hg : Gl X "range") (hm : X.mg "range" = none) (ha : PE X a (tE X.K W ma)) (hs : noStarE a = true) : PI X tg (.Call (.Name "range" p) [a] [] pos) (tSrc X.K W fun env => (ma env).bind fun r e1 => match r with
    | .val (.int j) => if inRng j then .ok (rngT 0 j.toNat, none) e1 else .stuck
    | _ => .stuck) := by
  refine pi_imp (pi_range1 hg hm (pa_cons ha pa_nil (star_cons hs)) (by rw [star_cons hs]; rfl)) fun σ H R0 ⟨env, F, fp, E, q⟩ => ?_
  refine tE_intro E Stp.refl q fun r e1 H1 F1 fp1 v l E1 s1 rr tm q1 => ?_
  cases rr with
  | val d =>
    cases d with
    | int j =>
      simp only at q1
      split at q1
      · rename_i hj
        replace hj := inRng_of hj
        exact ⟨j, rfl, hj.1, hj.2, q1 H1 F1 fp1 E1 s1 _ _ (src_rng 0 _) trivial (fun i h => by cases h)⟩
      · exact q1.elim
    | _ => exact q1.elim
  | _ => exact q1.elim
theorem pi_rng2 (hg : Gl X "range") (hm : X.mg "range" = none) (ha : PE X a (tE X.K W ma)) (hb : PE X b (tE X.K W mb)) (hs : noStarE a = true) (hs2 : noStarE b = true) : PI X tg (.Call (.Name "range" p) [a, b] [] pos) (tSrc X.K W fun env => (ma env).bind fun r e1 => (mb e1).bind fun r2 e2 => match r, r2 with
    | .val (.int i), .val (.int j) => if inRng i && inRng j then .ok (rngT i (j - i).toNat, none) e2 else .stuck
    | _, _ => .stuck) := by
  refine pi_imp (pi_range2 hg hm (pa_cons ha (pa_cons hb pa_nil (star_cons hs2)) (star_cons hs)) (by rw [star_cons hs, star_cons hs2]; rfl) (by rw [star_cons hs2]; rfl)) fun σ H R0 ⟨env, F, fp, E, q⟩ => ?_
  refine tE_intro E Stp.refl q fun r e1 H1 F1 fp1 v l E1 s1 rr tm q1 => ?_
  refine tE_intro E1 s1 q1 fun r2 e2 H2 F2 fp2 v2 l2 E2 s2 rr2 tm2 q2 => ?_
  cases rr with
  | val d =>
    cases d with
    | int i =>
      cases rr2 with
      | val d2 =>
        cases d2 with
        | int j =>
          simp only at q2
          split at q2
          · rename_i hj
            rw [Bool.and_eq_true] at hj
            replace hj := And.intro (inRng_of hj.1) (inRng_of hj.2)
            exact ⟨i, j, rfl, ⟨hj.1.1, hj.1.2, hj.2.1, hj.2.2⟩, q2 H2 F2 fp2 E2 (s1.trans s2) _ _ (src_rng i _) trivial (fun i h => by cases h)⟩
          · exact q2.elim
        | _ => exact q2.elim
      | _ => exact q2.elim
    | _ => exact q2.elim
  | _ => exact q2.elim
def mZip (ma mb : Env → Out R) : Env → Out (List T × Option Nat) := fun env => (ma env).bind fun ra e1 => (mb e1).bind fun rb e2 => ofO ((esc e2 ra).bind fun x => (esc e2 rb).bind fun y => match x, y with
    | .lst xs, .lst ys => some (zipT xs ys, none)
    | .rlst xs, .lst ys => some (zipT xs ys, none)
    | .tup xs, .tup ys => some (zipT xs ys, none)
    | _, _ => none) e2
theorem pi_zip {elts : List Expr} {kk : Nat} {tpos : Pos} (hg : Gl X "zip") (hm : X.mg "zip" = none) (ha : PE X a (tE X.K W ma)) (hb : PE X b (tE X.K W mb)) (hs : noStarE a = true) (hs2 : noStarE b = true) :
    PI X (.Tuple elts kk tpos) (.Call (.Name "zip" p) [a, b] [] pos) (tSrc X.K W (mZip ma mb)) := by
  refine pi_imp (RZ.pi_zipA hg hm (pa_cons ha (pa_cons hb pa_nil (star_cons hs2)) (star_cons hs)) (star_cons hs) (star_any (by simp [noStar, hs2]))) fun σ H R0 ⟨env, F, fp, E, q⟩ => ?_
  refine tE_intro E Stp.refl q fun ra e1 H1 F1 fp1 v l E1 s1 rr tm q1 => ?_
  refine tE_intro E1 s1 q1 fun rb e2 H2 F2 fp2 v2 l2 E2 s2 rr2 tm2 q2 => ?_
  obtain ⟨it, e, q3⟩ := ofO_asks q2
  simp only [Option.bind_eq_some_iff] at e
  obtain ⟨x, ex, y, ey, e⟩ := e
  have h1 := rr.here
  obtain ⟨F3, sF, dx, E3, s3, n3⟩ := esc_ok (rr.step tm s2) E2 (tm.step s2 h1) (s1.trans s2) ex
  have rr3 : RR X.K σ H2 F3 rb v2 l2 := by
    cases rr2 with
    | val q => exact .val (q.mono sF)
    | new q => exact .new (q.keep (fun _ _ => rfl) sF)
    | loan q => exact .loan q
  have tm3 : Tmp H (fpOf env fp) F3 (fpOf e2 fp2) l2 := fun c hc => by
    obtain ⟨g1, g2, g3⟩ := (tm2.base s1) c hc
    refine ⟨?_, g2, g3⟩
    cases hz : F3 c with
    | none => rfl
    | some o =>
      rcases n3 c (by rw [hz]; simp) with z | z
      · exact absurd g1 z
      · rcases (tm2 c hc).2.2 with w | w
        · exact absurd ((fpOf e1 fp1).sub c w) (tm c z).2.1
        · exact absurd w (h1 c z)
  obtain ⟨F4, sF4, dy, E4, s4, n4⟩ := esc_ok rr3 E3 tm3 s3 ey
  have dx4 := dx.mono sF4
  cases x with
  | lst xs =>
    cases y with
    | lst ys =>
      cases e
      obtain ⟨a1, vs, rfl, ha1, da1⟩ := dx4.lstF
      obtain ⟨a2, ws, rfl, ha2, da2⟩ := dy.lstF
      have L1 : SqL X.K F4 a1 vs := .inl (.inl ha1)
      have L2' : SqL X.K F4 a2 ws := .inl (.inl ha2)
      exact ⟨a1, a2, vs, ws, rfl, .inl ⟨E4.sub.seq L1, E4.sub.seq L2', q3 H2 F4 fp2 E4 s4 _ _ (src_zip F4 da1 da2) ⟨LStd.of E4 L1, LStd.of E4 L2', fun _ _ h => h⟩ (fun i h => by cases h)⟩⟩
    | _ => simp at e
  | rlst xs =>
    cases y with
    | lst ys =>
      cases e
      obtain ⟨a1, vs, rfl, L1, da1⟩ := dx4.seqL (xs := xs) rfl
      obtain ⟨a2, ws, rfl, ha2, da2⟩ := dy.lstF
      have L2' : SqL X.K F4 a2 ws := .inl (.inl ha2)
      exact ⟨a1, a2, vs, ws, rfl, .inl ⟨E4.sub.seq L1, E4.sub.seq L2', q3 H2 F4 fp2 E4 s4 _ _ (src_zip F4 da1 da2) ⟨LStd.of E4 L1, LStd.of E4 L2', fun _ _ h => h⟩ (fun i h => by cases h)⟩⟩
    | _ => simp at e
  | tup xs =>
    cases y with
    | tup ys =>
      cases e
      obtain ⟨a1, vs, rfl, L1, da1⟩ := dx4.tup'
      obtain ⟨a2, ws, rfl, L2', da2⟩ := dy.tup'
      exact ⟨a1, a2, vs, ws, rfl, .inr ⟨same_t E4.sub L1, same_t E4.sub L2', q3 H2 F4 fp2 E4 s4 _ _ (src_zipT F4 da1 da2) ⟨TStd.of E4 L1, TStd.of E4 L2', fun _ _ h => h⟩ (fun i h => by cases h)⟩⟩
    | _ => simp at e
  | _ => simp at e
end
end G
namespace G
open PySem PySem.Spec PyProof.Rows L2

/-! # dict comprehensions, displays, locks -/
def dcStep (tg : Tgt) (cond : Env → Out Bool) (ky va : Env → Out R) (vs : List Nat) : T → Env → Out (Option (Key × T)) := fun t e => match bindT (fun _ => false) tg t (wipeE e vs) with
        | none => .stuck
        | some e2 => noexc ((cond e2).bind fun k e3 => if k then (ky e3).bind fun rk e4 => (va e4).bind fun rv e5 => ofO (((lookT e5 rk).bind keyT).bind fun k => (esc e5 rv).map fun t => some (k, t)) e5 else .ok none e3)
def mDc (src : Env → Out (List T × Option Nat)) (tg : Tgt) (cond : Env → Out Bool) (ky va : Env → Out R) (vs : List Nat) : Env → Out R := fun env => (src env).bind fun it e1 =>
      (dcLoop (dcStep tg cond ky va vs) it.1 [] (lockE e1 it.2)).bind fun acc e5 => .ok (.new (.dic acc)) (unlockE (wipeE e5 vs) it.2)
theorem dc_imp {K : PySem.W.Frag} {W : WX} {src : Env → Out (List T × Option Nat)} {tg : Tgt} {cond : Env → Out Bool} {ky va : Env → Out R} {vs : List Nat} {σ : L2.St} {H : Hp} {Q : VK} (htg : ∀ i ∈ tgIs tg, i ∈ vs)
    (h : tE K W (mDc src tg cond ky va vs) σ H Q) : tDc (tSrc K W src) (gTgt K tg) (G.tB K W0 cond) (tE K W0 ky) (tE K W0 va) vs σ H Q := by
  obtain ⟨env, F, fp, E, q⟩ := h
  refine ⟨env, F, fp, E, ?_⟩
  unfold mDc at q
  cases es : src env with
  | stuck => rw [es] at q; exact q
  | exc x env' => rw [es] at q; exact q
  | ok it e1 =>
    rw [es] at q
    replace q : ((dcLoop (dcStep tg cond ky va vs) it.1 [] (lockE e1 it.2)).bind fun acc e5 => Out.ok (R.new (.dic acc)) (unlockE (wipeE e5 vs) it.2)).asks K W σ H F (fpOf env fp) (Ask K σ H (fpOf env fp) Q) := q
    intro H1 F1 fp1 E1 s1 J Std ok std hlk D hD
    obtain ⟨E2, o2, a2⟩ := E1.lock it.2
    have F1D : F1 D = none := E1.freeF hD
    -- the invariant at the i-th turn
    refine ⟨fun i m H' => m = it.1.length - i ∧ i ≤ it.1.length ∧ ∃ e F' fp' accV acc, EnvR K (wipeE e vs) (L2.wipe σ vs) H' F' fp' ∧ Stp (fpOf (lockE e1 it.2) fp1) H1 F1 (fpOf (wipeE e vs) fp') H' F' ∧ H' D = some (.dK accV) ∧ DenKV K F' accV acc ∧ F' D = none ∧
      ¬ (fpOf (wipeE e vs) fp').all D ∧ ((dcLoop (dcStep tg cond ky va vs) (it.1.drop i) acc e).bind fun acc e5 => Out.ok (R.new (.dic acc)) (unlockE (wipeE e5 vs) it.2)).asks K W σ H F (fpOf env fp) (Ask K σ H (fpOf env fp) Q), ⟨it.1.length, ?_⟩, ?_⟩
    · obtain ⟨E3, s3⟩ := (E2.alloc (o := .dK []) hD).wipe vs
      refine ⟨rfl, Nat.zero_le _, lockE e1 it.2, F1, _, [], [], E3, (Stp.refl.alloc hD).trans s3, upd_same, .nil, F1D, fun ⟨j, hj⟩ => ?_, q⟩
      have hj : D ∈ (if j ∈ vs then [] else fp1 j) := hj
      split at hj
      · simp at hj
      · exact E1.here j D hj hD
    · rintro i m H' ⟨rfl, hi, e, F', fp', accV, acc, E3, s3, hDa, dacc, hFD, hnD, qi⟩
      have std3 := ok.step _ _ _ _ _ _ std s3
      by_cases hlt : i < it.1.length
      · -- a turn
        refine .inr ⟨ok.go i _ _ _ std3 E3.sub hlt, fun H'' => ∃ e F' fp' accV acc, EnvR K (wipeE e vs) (L2.wipe σ vs) H'' F' fp' ∧ Stp (fpOf (lockE e1 it.2) fp1) H1 F1 (fpOf (wipeE e vs) fp') H'' F' ∧ H'' D = some (.dK accV) ∧ DenKV K F' accV acc ∧ F' D = none ∧
          ¬ (fpOf (wipeE e vs) fp').all D ∧ ((dcLoop (dcStep tg cond ky va vs) (it.1.drop (i + 1)) acc e).bind fun acc e5 => Out.ok (R.new (.dic acc)) (unlockE (wipeE e5 vs) it.2)).asks K W σ H F (fpOf env fp) (Ask K σ H (fpOf env fp) Q), fun H'' hN => ⟨it.1.length - (i + 1), by omega, rfl, hlt, hN⟩, fun x H4 y => ?_⟩
        have ed : it.1.drop i = it.1[i] :: it.1.drop (i + 1) := List.drop_eq_getElem_cons hlt
        rw [ed] at qi
        have yd := ok.yld i _ _ _ x H4 it.1[i] std3 E3.sub y (List.getElem?_eq_getElem hlt)
        obtain ⟨F4, sF, E4, s4, d4⟩ := yd.to E3
        -- the step's outcome
        cases hst : dcStep tg cond ky va vs it.1[i] e with
        | stuck => simp only [dcLoop, hst] at qi; exact qi.elim
        | exc x' e' =>
          unfold dcStep at hst
          split at hst
          · cases hst
          · rename_i e2 _
            cases hz : ((cond e2).bind fun k e3 => if k then (ky e3).bind fun rk e4 => (va e4).bind fun rv e5 => ofO (((lookT e5 rk).bind keyT).bind fun k => (esc e5 rv).map fun t => some (k, t)) e5 else .ok none e3) <;> rw [hz] at hst <;> cases hst
        | ok o e5 =>
          have qi' : ((match o with
            | some x => if acc.length < sizeLine then dcLoop (dcStep tg cond ky va vs) (it.1.drop (i + 1)) (putT acc x.1 x.2) e5 else .stuck
            | none => dcLoop (dcStep tg cond ky va vs) (it.1.drop (i + 1)) acc e5).bind fun acc e5 => Out.ok (R.new (.dic acc)) (unlockE (wipeE e5 vs) it.2)).asks K W σ H F (fpOf env fp) (Ask K σ H (fpOf env fp) Q) := by
            have z := qi
            simp only [dcLoop, hst] at z
            exact z
          clear qi
          unfold dcStep at hst
          cases hb : bindT (fun _ => false) tg it.1[i] (wipeE e vs) with
          | none => rw [hb] at hst; cases hst
          | some e2 =>
            rw [hb] at hst
            obtain ⟨k, e3, hc, hst⟩ := bind_ok (noexc_ok hst)
            refine tgt_ok E4 d4 hb fun σ2 fp2 E5 s5 so => ?_
            have hw : L2.wipe σ2 vs = L2.wipe σ vs := by
              rw [wipe_congr (σ := L2.wipe σ vs) (fun j hj => so.out j fun z => hj (htg j z)) so.len, wipe_wipe]
            refine ⟨hw, e2, F4, fp2, E5, ?_⟩
            rw [hc]
            intro H6 F6 fp6 E6 s6
            have s36 : Stp (fpOf (wipeE e vs) fp') H' F' (fpOf e3 fp6) H6 F6 := (s4.trans s5).trans s6
            have s16 := s3.trans s36
            have hD0 : H' D ≠ none := by rw [hDa]; simp
            obtain ⟨g1, g2, g3⟩ := s36.fresh hD0 hnD hFD
            cases k with
            | false =>
              rw [if_neg Bool.false_ne_true] at hst
              refine iteF ?_
              cases hst
              obtain ⟨E7, s7⟩ := E6.wipe vs
              rw [hw] at E7
              refine ⟨_, F6, _, accV, acc, E7, s16.trans s7, by rw [g1]; exact hDa, dacc.mono s36.fz, g2, fun ⟨j, hj⟩ => ?_, qi'⟩
              have hj : D ∈ (if j ∈ vs then [] else fp6 j) := hj
              split at hj
              · simp at hj
              · exact g3 ⟨j, hj⟩
            | true =>
              rw [if_pos rfl] at hst
              refine iteT ?_
              obtain ⟨rk, e4, hke, hst⟩ := bind_ok hst
              obtain ⟨rv, e6, hve, hst⟩ := bind_ok hst
              obtain ⟨hesc, he5⟩ := ofO_ok hst
              subst he5
              obtain ⟨key, hkey, hesc⟩ := Option.bind_eq_some_iff.mp hesc
              obtain ⟨t, het, rfl⟩ := Option.map_eq_some_iff.mp hesc
              obtain ⟨tk, htk, hkt⟩ := Option.bind_eq_some_iff.mp hkey
              refine ⟨e3, F6, fp6, E6, ?_⟩
              rw [hke]
              intro H7 F7 fp7 E7 s7 y7 l rr tm
              refine ⟨e4, F7, fp7, E7, ?_⟩
              rw [hve]
              intro H9 F9 fp9 E9 s9 y9 l9 rr9 tm9
              obtain ⟨F8, sF8, d8, E8, s8, n8⟩ := esc_ok rr9 E9 tm9 s9 het
              have hyk : y7 = kV key := (((rr.step tm s9).vr E9 htk).den E9.sub).key hkt
              have s38 := (s36.trans s7).trans s8
              obtain ⟨k1, k2, k3⟩ := s38.fresh hD0 hnD hFD
              simp only at qi'
              split at qi'
              · rename_i hz
                have hD8 : H9 D = some (.dK accV) := by rw [k1]; exact hDa
                have dacc8 := dacc.mono s38.fz
                refine ⟨accV, key, hyk, hD8, by rw [dacc8.length]; exact hz, ?_⟩
                obtain ⟨E10, s10⟩ := (E8.updTmp (o := .dK (putK accV key y9)) k3 k2).wipe vs
                rw [hw] at E10
                refine ⟨e6, F8, _, putK accV key y9, putT acc key t, E10, ((s3.trans s38).updNew hD).trans s10, upd_same, dacc8.put key d8, k2, fun ⟨j, hj⟩ => ?_, qi'⟩
                have hj : D ∈ (if j ∈ vs then [] else fp9 j) := hj
                split at hj
                · simp at hj
                · exact k3 ⟨j, hj⟩
              · exact qi'.elim
      · -- the end
        have ei : i = it.1.length := by omega
        subst ei
        refine .inl ⟨ok.stop _ _ _ _ std3 E3.sub (Nat.le_refl _), ?_⟩
        rw [List.drop_length] at qi
        have qi : (Out.ok (R.new (.dic acc)) (unlockE (wipeE e vs) it.2)).asks K W σ H F (fpOf env fp) (Ask K σ H (fpOf env fp) Q) := qi
        have E4 := E3.unwipe
        have s4 := Stp.locked E1 E4 hlk s3
        refine qi H' F' fp' (E4.unlock it.2).1 (s1.trans s4) (.ref D) [D] (.new (.dic hDa dacc)) fun a ha => ?_
        simp at ha
        subst ha
        exact ⟨hFD, hnD, s1.back hD⟩

/-! ## displays -/
def flatM : List ((Env → Out R) × (Env → Out R)) → Env → Out (List R)
  | [], env => .ok [] env
  | p :: ps, env => (p.1 env).bind fun r e1 => ((p.2 e1).bind fun r2 e2 => (flatM ps e2).bind fun rs e3 => .ok (r2 :: rs) e3).bind fun rs e3 => .ok (r :: rs) e3
def pairV : List V → List (V × V)
  | x :: y :: r => (x, y) :: pairV r
  | _ => []
theorem bind_assoc {α β γ : Type} (o : Out α) (f : α → Env → Out β) (g : β → Env → Out γ) : (o.bind f).bind g = o.bind fun a e => (f a e).bind g := by cases o <;> rfl
theorem pairs_imp {K : PySem.W.Frag} {W : WX} {σ : L2.St} {β : Type} {P0 : Fp} {H0 F0 : Hp} {Q0 : β → Env → Hp → Hp → (Nat → List Addr) → Prop} : ∀ (ps : List ((Env → Out R) × (Env → Out R))) {env : Env} {H F : Hp} {fp : Nat → List Addr} {f : List R → Env → Out β} {Q : List (V × V) → Hp → Prop}, EnvR K env σ H F fp → Stp P0 H0 F0 (fpOf env fp) H F → ((flatM ps env).bind f).asks K W σ H0 F0 P0 Q0 →
    (∀ rs env2 H2 F2 fp2 vs l, EnvR K env2 σ H2 F2 fp2 → Stp (fpOf env fp) H F (fpOf env2 fp2) H2 F2 → RRs K σ H2 F2 rs vs l → Tmp H (fpOf env fp) F2 (fpOf env2 fp2) l → (f rs env2).asks K W σ H0 F0 P0 Q0 → Q (pairV vs) H2) → tPairs (ps.map fun p => (tE K W p.1, tE K W p.2)) σ H Q
  | [], env, H, F, fp, f, Q, E, s, h, k => k [] env H F fp [] [] E Stp.refl .nil .nil h
  | p :: ps, env, H, F, fp, f, Q, E, s, h, k => by
    have h' : ((p.1 env).bind fun r e1 => (p.2 e1).bind fun r2 e2 => (flatM ps e2).bind fun rs e3 => f (r :: r2 :: rs) e3).asks K W σ H0 F0 P0 Q0 := by
      have e : (flatM (p :: ps) env).bind f = (p.1 env).bind fun r e1 => (p.2 e1).bind fun r2 e2 => (flatM ps e2).bind fun rs e3 => f (r :: r2 :: rs) e3 := by
        simp only [flatM, bind_assoc]; rfl
      rwa [e] at h
    refine tE_intro E s h' fun r e1 H1 F1 fp1 v l E1 s1 r1 t1 q1 => ?_
    refine tE_intro E1 (s.trans s1) q1 fun r2 e2 H2 F2 fp2 v2 l2 E2 s2 r2' t2 q2 => ?_
    refine pairs_imp ps E2 ((s.trans s1).trans s2) q2 fun rs e3 H3 F3 fp3 vs ls E3 s3 rs3 t3 q3 => ?_
    have d23 : ∀ a ∈ l2, a ∉ ls := fun x hx hx' => by
      rcases (t3 x hx').2.2 with z | z
      · exact (t2 x hx).2.1 ((fpOf e2 fp2).sub x z)
      · exact r2'.here x hx z
    have t23 : Tmp H1 (fpOf e1 fp1) F3 (fpOf e3 fp3) (l2 ++ ls) := fun x hx => by
      rcases List.mem_append.mp hx with hx | hx
      · exact (t2.step s3 r2'.here) x hx
      · exact (t3.base s2) x hx
    have rr : RRs K σ H3 F3 (r2 :: rs) (v2 :: vs) (l2 ++ ls) := .cons (r2'.step t2 s3) rs3 d23
    refine k (r :: r2 :: rs) e3 H3 F3 fp3 (v :: v2 :: vs) (l ++ (l2 ++ ls)) E3 ((s1.trans s2).trans s3) (.cons (r1.step t1 (s2.trans s3)) rr fun x hx hx' => ?_) (fun x hx => ?_) q3
    · rcases (t23 x hx').2.2 with z | z
      · exact (t1 x hx).2.1 ((fpOf e1 fp1).sub x z)
      · exact r1.here x hx z
    · rcases List.mem_append.mp hx with hx | hx
      · exact (t1.step (s2.trans s3) r1.here) x hx
      · exact (t23.base s1) x hx
theorem DenAll.pairs {K : PySem.W.Frag} {F : Hp} : ∀ {ts : List T} {kts : List (Key × T)} {vs : List V}, DenAll K F vs ts → pairUp ts = some kts → ∃ kvs : List (Key × V), pairV vs = kvs.map (fun kv => (kV kv.1, kv.2)) ∧ DenKV K F kvs kts
  | [], kts, _, .nil, h => by cases h; exact ⟨[], rfl, .nil⟩
  | [t], kts, _, .cons _ .nil, h => by cases h
  | t1 :: t2 :: ts, kts, _, .cons d1 (.cons d2 ds), h => by
    simp only [pairUp, Option.bind_eq_some_iff, Option.map_eq_some_iff] at h
    obtain ⟨k, hk, kts', h', rfl⟩ := h
    obtain ⟨kvs, e, dk⟩ := ds.pairs h'
    refine ⟨(k, _) :: kvs, ?_, .cons d2 dk⟩
    simp only [pairV, List.map_cons, e, d1.key hk]
theorem DenKV.merge {K : PySem.W.Frag} {F : Hp} : ∀ {more : List (Key × V)} {mt : List (Key × T)} {kvs : List (Key × V)} {kts : List (Key × T)}, DenKV K F more mt → DenKV K F kvs kts → DenKV K F (mergeK kvs more) (mt.foldl (fun acc kv => putT acc kv.1 kv.2) kts)
  | [], _, _, _, d, h => by cases d; exact h
  | (k, v) :: more, _, _, _, d, h => by
    cases d with
    | @cons _ _ _ t ts d ds =>
      have := DenKV.merge (more := more) (mt := ts) ds (h.put k d)
      exact this
section
variable {X : Cx} {W : WX} {pos : Pos}
def mDisp (ms : Env → Out (List R)) : Env → Out R := fun env => (ms env).bind fun rs e1 => ofO ((escs e1 rs).bind fun ts => (pairUp ts).bind fun kvs => if kvs.length ≤ 15 then some (R.new (.dic (mergeT kvs))) else none) e1
theorem se_disp {ps : List ((Env → Out R) × (Env → Out R))} {keys : List (Option Expr)} {values : List Expr} (h : PPs X pos keys values (ps.map fun p => (tE X.K W p.1, tE X.K W p.2))) (hall : keys.all (·.isSome) = true) (hl : keys.length = values.length) (h0 : keys ≠ []) (h15 : keys.length ≤ 15) :
    PE X (.Dict keys values pos) (tE X.K W (mDisp (flatM ps))) := by
  refine pe_imp (pe_disp h hall hl h0 h15) fun σ H Q ⟨env, F, fp, E, q⟩ => fun p hp => ?_
  have E0 := E.alloc (o := .dK []) hp
  have F0p : F p = none := E.freeF hp
  have A0p : ¬ (fpOf env fp).all p := E.notAll hp
  have s0 : Stp (fpOf env fp) H F (fpOf env fp) (upd H p (.dK [])) F := Stp.refl.alloc hp
  refine pairs_imp ps E0 s0 q fun rs e1 H1 F1 fp1 vs l E1 s1 rs1 t1 q1 => ?_
  obtain ⟨r, e, q2⟩ := ofO_asks q1
  simp only [Option.bind_eq_some_iff] at e
  obtain ⟨ts, e1', kts, e2, e3⟩ := e
  split at e3
  · rename_i hz
    cases e3
    obtain ⟨F2, sF, d, E2, s2⟩ := escs_ok rs1 E1 t1 s1 e1'
    obtain ⟨kvs, ek, dk⟩ := d.pairs e2
    obtain ⟨k1, k2, k3⟩ := s2.fresh (a := p) (by rw [upd_same]; simp) A0p F0p
    refine ⟨by rw [k1, upd_same], kvs, ek, by rw [dk.length]; exact hz, ?_⟩
    have E3 := E2.updTmp (o := .dK (mergeK [] kvs)) k3 k2
    have s3 := (s0.trans s2).updNew (o := .dK (mergeK [] kvs)) hp
    refine q2 _ _ fp1 E3 s3 (.ref p) [p] (.new (.dic upd_same (dk.merge .nil))) fun a ha => ?_
    simp at ha
    subst ha
    exact ⟨k2, k3, .inr hp⟩
  · cases e3

/-! ## a dict is locked while it is walked -/
theorem EnvR.lockD {K : PySem.W.Frag} {env : Env} {σ : L2.St} {H F : Hp} {fp : Nat → List Addr} (E : EnvR K env σ H F fp) {i : Nat} {kts : List (Key × T)} {a : Addr} {kvs : List (Key × V)} {od : Obj} (ei : env[i]? = some (some (.own (.dic kts)))) (hv : σ[i]? = some (some (.ref a))) (ha : H a = some (.dK kvs)) (hl : fp i = [a]) (d : DenKV K F kvs kts) :
    EnvR K (env.set i (some (.lck (.dic kts)))) σ (upd H a (.frz od (.dK kvs))) F fp := by
  have hi : i < env.length := (List.getElem?_eq_some_iff.mp ei).1
  have hFa : F a = none := E.free i a (by rw [hl]; exact List.mem_cons_self)
  refine ⟨fun j iv ej => ?_, fun j hj => ?_, E.dis, E.free, fun b x e => ?_, by simpa using E.len⟩
  · rcases get_set ej with ⟨rfl, h3, _⟩ | ⟨h3, h4⟩
    · cases h3
      exact ⟨_, hv, by rw [hl]; exact .lck (.dic upd_same d)⟩
    · obtain ⟨v, g1, g2⟩ := E.slot j iv h4
      refine ⟨v, g1, g2.keep (fun b hb => upd_ne fun z => h3 ?_) fun _ _ h => h⟩
      subst z
      exact E.dis i j b (by rw [hl]; exact List.mem_cons_self) hb
  · by_cases hji : j = i
    · subst hji
      exact absurd (by rw [List.getElem?_set_self hi]) (hj (.lck (.dic kts)))
    · exact E.out j (get_set_none hj (Ne.symm hji))
  · rw [upd_ne (ne_of_none e hFa)]
    exact E.sub b x e
theorem EnvR.freeD {K : PySem.W.Frag} {env : Env} {σ : L2.St} {H F : Hp} {fp : Nat → List Addr} (E : EnvR K env σ H F fp) {i : Nat} {kts : List (Key × T)} {a : Addr} {kvs : List (Key × V)} (ei : env[i]? = some (some (.lck (.dic kts)))) (hv : σ[i]? = some (some (.ref a))) (hl : fp i = [a]) (d : DenKV K F kvs kts) :
    EnvR K (env.set i (some (.own (.dic kts)))) σ (upd H a (.dK kvs)) F fp := by
  have hi : i < env.length := (List.getElem?_eq_some_iff.mp ei).1
  have hFa : F a = none := E.free i a (by rw [hl]; exact List.mem_cons_self)
  refine ⟨fun j iv ej => ?_, fun j hj => ?_, E.dis, E.free, fun b x e => ?_, by simpa using E.len⟩
  · rcases get_set ej with ⟨rfl, h3, _⟩ | ⟨h3, h4⟩
    · cases h3
      exact ⟨_, hv, by rw [hl]; exact .own (.dic upd_same d)⟩
    · obtain ⟨v, g1, g2⟩ := E.slot j iv h4
      refine ⟨v, g1, g2.keep (fun b hb => upd_ne fun z => h3 ?_) fun _ _ h => h⟩
      subst z
      exact E.dis i j b (by rw [hl]; exact List.mem_cons_self) hb
  · by_cases hji : j = i
    · subst hji
      exact absurd (by rw [List.getElem?_set_self hi]) (hj (.own (.dic kts)))
    · exact E.out j (get_set_none hj (Ne.symm hji))
  · rw [upd_ne (ne_of_none e hFa)]
    exact E.sub b x e
def mLockd (i : Nat) (m : Env → Out R) : Env → Out R := fun env => if isD env i then unlockR i (m (lockD env i)) else m env
theorem se_lockd {e : Expr} {m : Env → Out R} {i : Nat} (h : PE X e (tE X.K W m)) : PE X e (tE X.K W (mLockd i m)) := by
  refine ⟨fun pins s σ H Q I ⟨env, F, fp, E, q⟩ => ?_⟩
  by_cases hD : isD env i = true
  · have ed : ∃ kts, env[i]? = some (some (.own (.dic kts))) := by
      unfold isD at hD
      split at hD
      · exact ⟨_, by assumption⟩
      · cases hD
    obtain ⟨kts, ei⟩ := ed
    have hi : i < env.length := (List.getElem?_eq_some_iff.mp ei).1
    obtain ⟨v, hv, r⟩ := E.slot i _ ei
    generalize hl : fp i = li at r
    cases r with
    | own r => cases r with
      | @dic a kvs _ ha d =>
        have q2 : (unlockR i (m (lockD env i))).asks X.K W σ H F (fpOf env fp) (Ask X.K σ H (fpOf env fp) Q) := by
          have z := q
          simp only [mLockd, hD, if_true] at z
          exact z
        refine (pe_lock h).run pins s σ H Q I ⟨a, .dK kvs, ha, trivial, fun od => ⟨lockD env i, F, fp, ?_, ?_⟩⟩
        · simp only [lockD, ei]
          exact E.lockD ei hv ha hl d
        · have hown : (fpOf env fp).own a := ⟨i, _, ei, by rw [hl]; exact List.mem_cons_self⟩
          have oL : ∀ b, (fpOf (lockD env i) fp).own b → (fpOf env fp).own b ∧ b ≠ a := fun b ⟨j, o, ej, hj⟩ => by
            simp only [lockD, ei] at ej
            rcases get_set ej with ⟨_, h3, _⟩ | ⟨h3, h4⟩
            · cases h3
            · exact ⟨⟨j, o, h4, hj⟩, fun z => h3 (by rw [z] at hj; exact E.dis i j a (by rw [hl]; exact List.mem_cons_self) hj)⟩
          have lL : ∀ j b, (fpOf (lockD env i) fp).lk j b → (j = i ∧ b = a) ∨ (j ≠ i ∧ (fpOf env fp).lk j b) := fun j b ⟨o, ej, hj⟩ => by
            simp only [lockD, ei] at ej
            rcases get_set ej with ⟨h2, h3, _⟩ | ⟨h3, h4⟩
            · subst h2
              rw [hl] at hj
              exact .inl ⟨rfl, by simpa using hj⟩
            · exact .inr ⟨Ne.symm h3, ⟨o, h4, hj⟩⟩
          have hN : ∀ b, (upd H a (.frz od (.dK kvs))) b = none → H b = none := fun b hb => by
            by_cases z : b = a
            · subst z; rw [upd_same] at hb; cases hb
            · rwa [upd_ne z] at hb
          cases em : m (lockD env i) with
          | stuck => rw [em] at q2; exact q2
          | exc x e' => rw [em] at q2; exact q2.elim
          | ok r env' =>
            rw [em] at q2
            intro H' F' fp' E' s' v' l rr tm
            have hna : ¬ (fpOf (lockD env i) fp).own a := fun z => (oL a z).2 rfl
            have ha' : H' a = some (.frz od (.dK kvs)) := s'.keep a _ upd_same hna
            refine ⟨ha', ?_⟩
            simp only [unlockR] at q2
            split at q2
            · rename_i o eo
              obtain ⟨w, hw, rw'⟩ := E'.slot i _ eo
              generalize hl' : fp' i = li' at rw'
              cases rw' with
              | lck rw' => cases rw' with
                | @dic a2 ob kvs2 _ h2 d2 =>
                  have ea2 : a2 = a := by
                    rcases lL i a2 (s'.lk i a2 ⟨_, eo, by rw [hl']; exact List.mem_cons_self⟩) with ⟨_, z⟩ | ⟨z, _⟩
                    · exact z
                    · exact absurd rfl z
                  subst ea2
                  rw [ha'] at h2
                  cases h2
                  have ma : a2 ∈ fp' i := by rw [hl']; exact List.mem_cons_self
                  have nl : ∀ b ∈ l, b ≠ a2 := fun b hb z => (tm b hb).2.1 ⟨i, by rw [z]; exact ma⟩
                  refine q2 (upd H' a2 (.dK kvs)) F' fp' (E'.freeD eo hw hl' d2) ⟨fun b x e hn => ?_, s'.fz, fun b hb => ?_, fun b ⟨j, o', ej, hj⟩ => ?_, fun b hb => ?_, fun j b ⟨o', ej, hj⟩ => ?_⟩ v' l ?_ fun b hb => ?_
                  · have hb : b ≠ a2 := fun z => hn (by rw [z]; exact hown)
                    rw [upd_ne hb]
                    exact s'.keep b x (by rw [upd_ne hb]; exact e) fun z => hn (oL b z).1
                  · rcases s'.nfz b hb with z | z | z
                    · exact .inl z
                    · exact .inr (.inl (oL b z).1)
                    · exact .inr (.inr (hN b z))
                  · rcases get_set ej with ⟨h3, _, _⟩ | ⟨h3, h4⟩
                    · subst h3
                      rw [hl'] at hj
                      have : b = a2 := by simpa using hj
                      rw [this]
                      exact .inl hown
                    · exact (s'.own b ⟨j, o', h4, hj⟩).imp (fun z => (oL b z).1) (hN b)
                  · exact (s'.all b hb).imp id (hN b)
                  · rcases get_set ej with ⟨_, h3, _⟩ | ⟨h3, h4⟩
                    · cases h3
                    · rcases lL j b (s'.lk j b ⟨o', h4, hj⟩) with ⟨z, _⟩ | ⟨_, z⟩
                      · exact absurd z.symm h3
                      · exact z
                  · cases rr with
                    | val d => exact .val d
                    | new o => exact .new (o.keep (fun b hb => upd_ne (nl b hb)) fun _ _ h => h)
                    | loan e => exact .loan e
                  · obtain ⟨t1, t2, t3⟩ := tm b hb
                    exact ⟨t1, t2, t3.imp (fun z => (oL b z).1) (hN b)⟩
            · exact q2.elim
  · refine h.run pins s σ H Q I ⟨env, F, fp, E, ?_⟩
    have z := q
    simp only [mLockd, if_neg hD] at z
    exact z

/-! ## a name is given a dict comprehension's dict -/
theorem swD {kx vx : Expr} {gs : List Comprehension} {scope : Scope} {q py : Pos} {y : Str} {l : Nat} {env : PySem.Env} (h1 : env.scope.kind = .function) (h2 : env.scope.names.lookup y = some .local) (h3 : (py.line == q.line) = true)
    (h4 : (scope.names.any fun p => p.1 == y && (p.2 == .local || p.2 == .cell)) = false) : swapsWith (.DictComp kx vx gs scope q) (some (.Name y py)) l env = pure true := by
  have e1 : (env.kindOf y == some NameKind.local) = true := by show (env.scope.names.lookup y == _) = true; rw [h2]; rfl
  have e2 : (env.blockKind == .function) = true := by unfold Env.blockKind; rw [h1]; rfl
  show (pure _ : Sem Bool) = _
  rw [e1, e2]
  show (pure ((py.line == q.line) && !(scope.names.any fun p => p.1 == y && (p.2 == .local || p.2 == .cell))) : Sem Bool) = _
  rw [h3, h4]
  rfl
theorem ps_setDc {i : Nat} {y : Str} {py : Pos} {kx vx tg iter : Expr} {ifs : List Expr} {scope : Scope} {own : List (Str × Nat)} {q spos : Pos} {wi : TI} {g : TG} {tt : TT} {tk tv : TE} (h1 : X.calm = true) (h2 : X.N.Nodup) (h3 : X.N[i]? = some y) (h4 : X.env.scope.names.lookup y = some .local)
    (h5 : swapsWith (.DictComp kx vx [⟨tg, iter, ifs, 0⟩] scope q) (some (.Name y py)) spos.line X.env = pure true) (h6 : PI X tg iter wi) (h7 : BlkOk X.N X.env.scope scope own)
    (h8 : ∀ (s : Shared) (H : Hp) (a : Addr) (cl : List (Str × Addr)) (fp : List Addr), PG (X.blk s H scope (compEnvC scope cl a X.env) fp) tg g) (h9 : ∀ (s : Shared) (H : Hp) (a : Addr) (cl : List (Str × Addr)) (fp : List Addr), PTs (X.blk s H scope (compEnvC scope cl a X.env) fp) ifs tt)
    (hA : ∀ (s : Shared) (H : Hp) (a : Addr) (cl : List (Str × Addr)) (fp : List Addr), PE (X.blk s H scope (compEnvC scope cl a X.env) fp) kx tk)
    (hB : ∀ (s : Shared) (H : Hp) (a : Addr) (cl : List (Str × Addr)) (fp : List Addr), PE (X.blk s H scope (compEnvC scope cl a X.env) fp) vx tv) (hC : ∀ x, foldedSetIterable iter X.env x = pure x) :
    PS X (.Assign [.Name y py] (.DictComp kx vx [⟨tg, iter, ifs, 0⟩] scope q) spos) (tAsg (tDc wi g tt tk tv (own.map (·.2))) (gName i)) := by
  constructor
  intro pins s σ H D I hw
  have hw : tDc wi g tt tk tv (own.map (·.2)) σ H (fun x H1 => gName i x σ H1 D.nx) := hw
  rw [exec_Assign_Name_used (hs := h5)]
  apply wpAny_bind
  apply wpAny_standAt
  apply wpAny_bind
  show wpAny _ X.A (do let _ ← comprehension (.DictComp kx vx [⟨tg, iter, ifs, 0⟩] scope q) scope X.env (firstIterPos [⟨tg, iter, ifs, 0⟩] q) newDict false (eval iter X.env) (some (assign (.Name y py) X.env))) _ _ s
  apply wpAny_bind
  refine thn (dc_core (Qf := fun _ s5 => SP X pins D .next s5) h1 h2 I h6 h7 h8 h9 hA hB hC hw ?_) fun _ s5 r => wpAny_pure (wpAny_pure r)
  intro L c s5 m H5 I5 r5 n5 f5
  show wpAny _ _ (assign (.Name y py) X.env (.ref L)) _ _ _
  apply wpAny_assign_Name
  refine store_ok2 (v := V.ref L) I5 h2 h3 (.inl h4) rfl (fun s6 I6 k => ?_) (.inr h4)
  obtain ⟨a, sb, ha⟩ := k
  obtain ⟨g0, g1, g2, g3, g4, g5⟩ := f5
  have ne : c ≠ a := fun e => by
    rcases ha with z | z
    · exact g1 (e.trans z)
    · exact g4 y a z e.symm
  exact ⟨m, n5.sameBut sb ne, fun h7 sb7 => ⟨_, H5, I6.turned (t' := s6.toks) (fun b o hb e => (sb7.2 b hb).trans e) g0 g1 g3 g4 g5, r5⟩⟩
end
end G
namespace G
open PySem PySem.Spec PyProof.Rows L2

/-! # repr -/
theorem fitR_depth : ∀ (k : Nat) (t : T), fitR k t = true → (toD k t).depth ≤ k := by
  intro k
  induction k with
  | zero => intro t h; cases t <;> simp [fitR, toD, PyData.depth] at h ⊢
  | succ k ih =>
    have hs : ∀ xs : List T, xs.all (fitR k) = true → PyData.depthAll (xs.map (toD k)) ≤ k := by
      intro xs
      induction xs with
      | nil => intro _; simp [PyData.depthAll]
      | cons x r ih2 =>
        intro h
        simp only [List.all_cons, Bool.and_eq_true] at h
        have a := ih x h.1
        have c := ih2 h.2
        simp only [List.map_cons, PyData.depthAll]
        omega
    have hk : ∀ xs : List (Key × T), (xs.all fun kv => keyFit kv.1 && fitR k kv.2) = true → PyData.depthKv (xs.map fun kv => (keyD kv.1, toD k kv.2)) ≤ k := by
      intro xs
      induction xs with
      | nil => intro _; simp [PyData.depthKv]
      | cons x r ih2 =>
        intro h
        simp only [List.all_cons, Bool.and_eq_true] at h
        have a := ih x.2 h.1.2
        have c := ih2 h.2
        have d : (keyD x.1).depth = 0 := by rcases x.1 with i | s <;> simp [keyD, PyData.depth]
        simp only [List.map_cons, PyData.depthKv]
        omega
    intro t h
    cases t with
    | lst xs => simp only [fitR] at h; have := hs xs h; simp only [toD, PyData.depth]; omega
    | tup xs => simp only [fitR] at h; have := hs xs h; simp only [toD, PyData.depth]; omega
    | dic xs => simp only [fitR] at h; have := hk xs h; simp only [toD, PyData.depth]; omega
    | rlst xs => simp [fitR] at h
    | _ => simp [toD, PyData.depth]
section
variable {X : Cx} {pins : List (Addr × Obj)} {σ : L2.St} {H F : Hp} {s : Shared}
theorem key_reads {h : Heap} {P : Program} {w : World} {k : Key} {v : Value} (hr : (mixKind P w).is k v = true) : Reads h v (keyD k) [] := by
  have hr : keyIs k v = true := hr
  rcases keyIs_shape hr with ⟨i, t, e1, e2⟩ | ⟨x, t, e1, e2⟩
  · rw [e1, e2]; exact .int i t
  · rw [e1, e2]; exact .str x t
theorem reads_t (I : Inv X pins σ H s) (hS : H sysModules = none) (sF : Same F H) : ∀ (k : Nat) {t : T} {v : V} {u : Value}, fitR k t = true → Den X.K F v t → RelV v u → ∃ as, Reads s.heap u (toD k t) as ∧ sysModules ∉ as := by
  have leaf : ∀ (k : Nat) {t : T} {v : V} {u : Value}, (∀ xs, t ≠ .lst xs) → (∀ xs, t ≠ .tup xs) → (∀ xs, t ≠ .dic xs) → fitR k t = true → Den X.K F v t → RelV v u → ∃ as, Reads s.heap u (toD k t) as ∧ sysModules ∉ as := by
    intro k t v u n1 n2 n3 hf d r
    cases d with
    | non => cases r; exact ⟨[], by cases k <;> exact .none, by simp⟩
    | bl b => cases r; exact ⟨[], by cases k <;> exact .bool b, by simp⟩
    | int i => obtain ⟨t, rfl⟩ := r; exact ⟨[], by cases k <;> exact .int i t, by simp⟩
    | str x => obtain ⟨t, rfl⟩ := r; exact ⟨[], by cases k <;> exact .str x t, by simp⟩
    | lst _ _ => exact absurd rfl (n1 _)
    | tup _ _ => exact absurd rfl (n2 _)
    | dic _ _ => exact absurd rfl (n3 _)
    | rlst _ _ => cases k <;> simp [fitR] at hf
    | adr _ => cases k <;> simp [fitR] at hf
    | obj _ _ _ => cases k <;> simp [fitR] at hf
  intro k
  induction k with
  | zero =>
    intro t v u hf d r
    refine leaf 0 (fun xs e => ?_) (fun xs e => ?_) (fun xs e => ?_) hf d r <;> · subst e; simp [fitR] at hf
  | succ k ih =>
    have all : ∀ {ts : List T} {vs : List V} {us : List Value}, ts.all (fitR k) = true → DenAll X.K F vs ts → Vals vs us → ∃ as, ReadsAll s.heap us (ts.map (toD k)) as ∧ sysModules ∉ as := by
      intro ts
      induction ts with
      | nil => intro vs us _ d r; cases d; cases r; exact ⟨[], .nil, by simp⟩
      | cons t ts ih2 =>
        intro vs us hf d r
        simp only [List.all_cons, Bool.and_eq_true] at hf
        cases d with
        | cons d1 d2 =>
          cases r with
          | cons r1 r2 =>
            obtain ⟨as, q1, n1⟩ := ih hf.1 d1 r1
            obtain ⟨bs, q2, n2⟩ := ih2 hf.2 d2 r2
            exact ⟨as ++ bs, .cons q1 q2, by simp [n1, n2]⟩
    have kvs : ∀ {kts : List (Key × T)} {kvs : List (Key × V)} {vs : List (Key × Value)} {es : List DictEntry}, (kts.all fun kv => keyFit kv.1 && fitR k kv.2) = true → DenKV X.K F kvs kts → KV kvs vs → Pairs (mixKind X.prog X.w) es vs →
        ∃ as, ReadsAll s.heap (es.map (·.key)) (kts.map fun kv => keyD kv.1) [] ∧ ReadsAll s.heap (es.map (·.val)) (kts.map fun kv => toD k kv.2) as ∧ sysModules ∉ as := by
      intro kts
      induction kts with
      | nil => intro kvs vs es _ d r p; cases d; cases r; cases p; exact ⟨[], .nil, .nil, by simp⟩
      | cons t ts ih2 =>
        intro kvs vs es hf d r p
        simp only [List.all_cons, Bool.and_eq_true] at hf
        cases d with
        | cons d1 d2 =>
          cases r with
          | cons r1 r2 =>
            cases p with
            | cons p1 pv p2 =>
              obtain ⟨bs, q1, q2, n2⟩ := ih2 hf.2 d2 r2 p2
              obtain ⟨as, q3, n1⟩ := ih hf.1.2 d1 r1.2
              have hk := key_reads (h := s.heap) p1
              rw [← r1.1] at hk
              rw [← pv] at q3
              exact ⟨as ++ bs, ReadsAll.cons (as := []) (bs := []) hk q1, .cons q3 q2, by simp [n1, n2]⟩
    intro t v u hf d r
    cases d with
    | lst h d =>
      cases r
      simp only [fitR] at hf
      have hH := sF _ _ h
      obtain ⟨its, rv, ⟨o, n, ho, hc, _, hd⟩, _⟩ := I.list (.inl (.inl hH))
      obtain ⟨as, hr, hn⟩ := all hf d rv
      refine ⟨_, Reads.list ho hc hd hr, ?_⟩
      simp only [List.mem_cons, not_or]
      exact ⟨fun e => (by rw [← e, hS] at hH; cases hH), hn⟩
    | tup h d =>
      cases r
      simp only [fitR] at hf
      obtain ⟨its, rv, ⟨o, ho, hc, n, hd⟩, _⟩ := I.tuple (same_t sF h)
      obtain ⟨as, hr, hn⟩ := all hf d rv
      exact ⟨_, Reads.tuple ho hc hd hr, hn⟩
    | dic h d =>
      cases r
      simp only [fitR] at hf
      obtain ⟨_, hsm, vs, kv, o, es, ep, ho, hc, hd, _, hp, _⟩ := (rd_mono sF h).ok I.hok
      obtain ⟨as, q1, q2, hn⟩ := kvs hf d kv hp
      refine ⟨_, Reads.dict (kvs := _) ho hc.1 hd (by rw [List.map_map]; exact q1) (by rw [List.map_map]; exact q2), ?_⟩
      simp only [List.nil_append, List.cons_append, List.mem_cons, not_or]
      exact ⟨fun e => (by rw [← e] at hsm; simp at hsm), hn⟩
    | non => exact leaf (k + 1) (by simp) (by simp) (by simp) hf .non r
    | bl b => exact leaf (k + 1) (by simp) (by simp) (by simp) hf (.bl b) r
    | int i => exact leaf (k + 1) (by simp) (by simp) (by simp) hf (.int i) r
    | str x => exact leaf (k + 1) (by simp) (by simp) (by simp) hf (.str x) r
    | rlst h d => simp [fitR] at hf
    | adr _ => simp [fitR] at hf
    | obj _ _ _ => simp [fitR] at hf
/-- the interpreter's own dict is never tracked -/
theorem Inv.noSys (I : Inv X pins σ H s) (hb : ∃ m, X.base.Ns sysModules m) : H sysModules = none := by
  obtain ⟨m, o, es, ep, ho, _⟩ := hb
  obtain ⟨h1, h2⟩ := I.ok.bs _ _ ho
  exact I.base.free _ _ h1 h2 (I.ok.noex _ _ ho)
end
section
variable {X : Cx}
theorem cr_repr (hg : X.A.guards = some []) (hb : ∃ m, X.base.Ns sysModules m) (hu : X.A.units + 65 < cLine) : CallR X (.builtin "repr") (rBI X.K .repr) := by
  intro pins s σ H xs us Q I r h
  obtain ⟨F, ts, rv, hs, vr, e, q⟩ := h
  match ts, e with
  | [t], e =>
    obtain ⟨v, rfl, d⟩ := vrs1 vr
    obtain ⟨st, es, rfl⟩ := Option.map_eq_some_iff.mp e
    unfold reprT at es
    split at es
    · rename_i hc
      cases es
      simp only [Bool.and_eq_true, decide_eq_true_eq] at hc
      obtain ⟨⟨⟨h1, h2⟩, h3⟩, h4⟩ := hc
      obtain ⟨u, rfl, ru⟩ := vals1 r
      have dd := d.den hs
      have hS := Inv.noSys I hb
      obtain ⟨as, rd, hn⟩ := reads_t I hS (fun _ _ z => z) 40 h2 dd ru
      have l2 := fitR_depth 40 t h2
      have hv : ∃ a, v = .ref a := by
        cases dd <;> first | exact ⟨_, rfl⟩ | (simp [isSq] at h1; done)
      obtain ⟨a, rfl⟩ := hv
      obtain rfl : u = Value.ref a := ru
      refine PySem.repr_of_reads' rd h3 (fun _ => hn) hg (by omega) (fun _ _ z => z) (fun h' w tk hk => ?_) h4
      exact ⟨.str _, H, I.kept (t' := tk) hk, ⟨_, rfl⟩, q _ (.str _)⟩
    · cases es
end
end G
namespace G
open PySem PySem.Spec PyProof.Rows L2

/-! # calls of the program's own defs -/
/-- a def keeps a promise wherever nothing is being shown (repr) -/
structure FnG (gq : Bool) (P : Program) (w : World) (K : PySem.W.Frag) (mg : Str → Option Value) (base : Heap) (k : Nat) (f : Addr) (fd : FuncData) (ps : List Str) (sp : Sp) : Prop where
  len : ∀ vs H Q E, sp vs H Q E → vs.length = ps.length
  run : ∀ (A : Around) (outer : List PySem.Env) (s : Shared) (H : Hp) (args : Args) (us : List Value) (vs : List V) (Q : VK) (E : XK), Room k A → (gq = true → A.guards = some []) → Env0 P w K mg base A outer s H →
    BindsTo s fd args (ps.zip us) → Vals vs us → sp vs H Q E → codeAny (model P w) A (.call (.ref f) args) (CR (CX P w) outer P w H s Q E) s
/-- what a call of meaning m promises -/
def spF (K : PySem.W.Frag) (m : List Iv → Res) : Sp := fun vs H Q E => ∃ ivs F fp, EnvR K (ivs.map some) (vs.map some) H F fp ∧
  match m ivs with
  | .ok r outs => ∀ H' F' fp', EnvR K (outs.map some) (vs.map some) H' F' fp' → Stp (fpOf (ivs.map some) fp) H F (fpOf (outs.map some) fp') H' F' →
      ∀ v l, IvR K H' F' v r l → Tmp H (fpOf (ivs.map some) fp) F' (fpOf (outs.map some) fp') l → Q v H'
  | .exc x outs => ∀ cls d H' F' fp', EnvR K (outs.map some) (vs.map some) H' F' fp' → Stp (fpOf (ivs.map some) fp) H F (fpOf (outs.map some) fp') H' F' → XR K x cls d H' → E cls d H'
  | .stuck => False

section
variable {K : PySem.W.Frag} {W : WX} {σ : L2.St} {env : Env} {H F : Hp} {fp : Nat → List Addr}
/-- arguments with what each owns -/
inductive AR (K : PySem.W.Frag) (H F : Hp) : List V → List Iv → List (List Addr) → Prop
  | nil : AR K H F [] [] []
  | cons {v : V} {iv : Iv} {l : List Addr} {vs : List V} {ivs : List Iv} {ls : List (List Addr)} : IvR K H F v iv l → AR K H F vs ivs ls → (∀ a ∈ l, ∀ l' ∈ ls, a ∉ l') → AR K H F (v :: vs) (iv :: ivs) (l :: ls)
theorem AR.get {vs : List V} {ivs : List Iv} {ls : List (List Addr)} (h : AR K H F vs ivs ls) : ∀ {j : Nat} {iv : Iv}, ivs[j]? = some iv → ∃ v l, vs[j]? = some v ∧ ls[j]? = some l ∧ IvR K H F v iv l := by
  induction h with
  | nil => intro j iv e; simp at e
  | cons h hs d ih =>
    intro j iv e
    cases j with
    | zero => simp at e; subst e; exact ⟨_, _, rfl, rfl, h⟩
    | succ j => simpa using ih (by simpa using e)
theorem AR.len {vs : List V} {ivs : List Iv} {ls : List (List Addr)} (h : AR K H F vs ivs ls) : vs.length = ivs.length ∧ ls.length = ivs.length := by
  induction h with
  | nil => exact ⟨rfl, rfl⟩
  | cons h hs d ih => exact ⟨by simp [ih.1], by simp [ih.2]⟩
theorem AR.dis {vs : List V} {ivs : List Iv} {ls : List (List Addr)} (h : AR K H F vs ivs ls) : ∀ {j k : Nat} {l l' : List Addr} {a : Addr}, ls[j]? = some l → ls[k]? = some l' → a ∈ l → a ∈ l' → j = k := by
  induction h with
  | nil => intro j k l l' a e; simp at e
  | cons h hs d ih =>
    intro j k l l' a e e' ha ha'
    cases j with
    | zero =>
      cases k with
      | zero => rfl
      | succ k =>
        simp at e e'
        subst e
        exact absurd ha' (d a ha l' (List.mem_of_getElem? e'))
    | succ j =>
      cases k with
      | zero =>
        simp at e e'
        subst e'
        exact absurd ha (d a ha' l (List.mem_of_getElem? e))
      | succ k =>
        have := ih (j := j) (k := k) (by simpa using e) (by simpa using e') ha ha'
        omega
/-- the arguments of a call, as the callee sees them -/
theorem args_ok (E : EnvR K env σ H F fp) : ∀ {rs : List R} {vs : List V} {l : List Addr} {ivs : List Iv}, RRs K σ H F rs vs l → (∀ a ∈ l, ¬ (fpOf env fp).all a) → argsOf env rs = some ivs → (lent env rs).Nodup →
    ∃ ls : List (List Addr), AR K H F vs ivs ls ∧ (∀ (j : Nat) (r : R) (lj : List Addr), rs[j]? = some r → ls[j]? = some lj → (∃ i, r = R.loan i ∧ lj = fp i) ∨ ((∀ i, r ≠ R.loan i) ∧ ∀ a ∈ lj, a ∈ l)) ∧ (∀ lj ∈ ls, (∀ a ∈ lj, a ∈ l) ∨ ∃ i, i ∈ lent env rs ∧ lj = fp i)
  | _, _, _, _, .nil, _, e, _ => by
    simp [argsOf] at e
    subst e
    exact ⟨[], .nil, fun j r lj h => by simp at h, fun lj h => by simp at h⟩
  | _, _, _, ivs, .cons (r := r) (v := v) (rs := rs) (l := l) (ls := ls) h hs d, hn, e, nd => by
    simp only [argsOf] at e
    cases e1 : look env r with
    | none => rw [e1] at e; simp at e
    | some iv =>
      cases e2 : argsOf env rs with
      | none => rw [e1, e2] at e; simp at e
      | some ivs' =>
        rw [e1, e2] at e
        simp at e
        subst e
        have nd' : (lent env rs).Nodup := by
          cases r with
          | loan i =>
            simp only [lent] at nd
            split at nd
            · exact nd
            · exact (List.nodup_cons.mp nd).2
          | _ => exact nd
        obtain ⟨ls', ar, cl, cl2⟩ := args_ok E hs (fun a ha => hn a (List.mem_append_right _ ha)) e2 nd'
        cases h with
        | val d' =>
          simp [look] at e1
          subst e1
          refine ⟨[] :: ls', .cons (.val d') ar fun a ha => by simp at ha, fun j r' lj hr hl => ?_, fun lj hlj => ?_⟩
          · cases j with
            | zero => simp at hr hl; subst hr hl; exact .inr ⟨fun i => (by simp), fun a ha => by simp at ha⟩
            | succ j =>
              rcases cl j r' lj (by simpa using hr) (by simpa using hl) with z | ⟨z1, z2⟩
              · exact .inl z
              · exact .inr ⟨z1, fun a ha => List.mem_append_right _ (z2 a ha)⟩
          · rcases List.mem_cons.mp hlj with rfl | hlj
            · exact .inl fun a ha => by simp at ha
            · exact (cl2 lj hlj).imp (fun z a ha => List.mem_append_right _ (z a ha)) id
        | new d' =>
          simp [look] at e1
          subst e1
          refine ⟨l :: ls', .cons (.own d') ar fun a ha l' hl' => ?_, fun j r' lj hr hl => ?_, fun lj hlj => ?_⟩
          · rcases cl2 l' hl' with z | ⟨i, hi, rfl⟩
            · exact fun ha' => d a ha (z a ha')
            · exact fun ha' => hn a (List.mem_append_left _ ha) ⟨i, ha'⟩
          · cases j with
            | zero => simp at hr hl; subst hr hl; exact .inr ⟨fun i => (by simp), fun a ha => List.mem_append_left _ ha⟩
            | succ j =>
              rcases cl j r' lj (by simpa using hr) (by simpa using hl) with z | ⟨z1, z2⟩
              · exact .inl z
              · exact .inr ⟨z1, fun a ha => List.mem_append_right _ (z2 a ha)⟩
          · rcases List.mem_cons.mp hlj with rfl | hlj
            · exact .inl fun a ha => List.mem_append_left _ ha
            · exact (cl2 lj hlj).imp (fun z a ha => List.mem_append_right _ (z a ha)) id
        | @loan _ i hi =>
          simp only [look] at e1
          cases ei : env[i]? with
          | none => rw [ei] at e1; simp at e1
          | some x =>
            rw [ei] at e1
            simp only at e1
            subst e1
            obtain ⟨v', g1, g2⟩ := E.slot i iv ei
            rw [hi] at g1
            cases g1
            refine ⟨fp i :: ls', .cons g2 ar fun a ha l' hl' => ?_, fun j r' lj hr hl => ?_, fun lj hlj => ?_⟩
            · rcases cl2 l' hl' with z | ⟨i', hi', rfl⟩
              · exact fun ha' => hn a (List.mem_append_right _ (z a ha')) ⟨i, ha⟩
              · intro ha'
                have hii := E.dis i i' a ha ha'
                subst hii
                simp only [lent, ei] at nd
                cases iv with
                | val t =>
                  generalize fp i = li at g2 ha
                  cases g2
                  simp at ha
                | own o => exact (List.nodup_cons.mp nd).1 hi'
                | lck o => exact (List.nodup_cons.mp nd).1 hi'
            · cases j with
              | zero => simp at hr hl; subst hr hl; exact .inl ⟨i, rfl, rfl⟩
              | succ j =>
                rcases cl j r' lj (by simpa using hr) (by simpa using hl) with z | ⟨z1, z2⟩
                · exact .inl z
                · exact .inr ⟨z1, fun a ha => List.mem_append_right _ (z2 a ha)⟩
            · rcases List.mem_cons.mp hlj with rfl | hlj
              · cases iv with
                | val t =>
                  left
                  intro a ha
                  generalize fp i = li at g2 ha
                  cases g2
                  simp at ha
                | own o => exact .inr ⟨i, by simp [lent, ei], rfl⟩
                | lck o => exact .inr ⟨i, by simp [lent, ei], rfl⟩
              · refine (cl2 lj hlj).imp (fun z a ha => List.mem_append_right _ (z a ha)) fun ⟨i', h1, h2⟩ => ⟨i', ?_, h2⟩
                simp only [lent]
                split
                · exact h1
                · exact List.mem_cons_of_mem _ h1
/-- the callee's first world -/
theorem AR.toEnv {vs : List V} {ivs : List Iv} {ls : List (List Addr)} (h : AR K H F vs ivs ls) (s : Same F H) (hF : ∀ l ∈ ls, ∀ a ∈ l, F a = none) : EnvR K (ivs.map some) (vs.map some) H F fun j => (ls[j]?).getD [] := by
  have hlen := h.len
  refine ⟨fun j iv e => ?_, fun j hj => ?_, fun j k a ha hb => ?_, fun j a ha => ?_, s, by simp [hlen.1]⟩
  · rw [List.getElem?_map] at e
    cases e1 : ivs[j]? with
    | none => rw [e1] at e; simp at e
    | some iv' =>
      rw [e1] at e
      simp at e
      subst e
      obtain ⟨v, l, g1, g2, g3⟩ := h.get e1
      exact ⟨v, by rw [List.getElem?_map, g1]; rfl, by show IvR K H F v iv' ((ls[j]?).getD []); rw [g2]; exact g3⟩
  · show (ls[j]?).getD [] = []
    cases e1 : ivs[j]? with
    | none =>
      have : ls[j]? = none := List.getElem?_eq_none_iff.mpr (by rw [hlen.2]; exact List.getElem?_eq_none_iff.mp e1)
      rw [this]; rfl
    | some iv => exact absurd (by rw [List.getElem?_map, e1]; rfl) (hj iv)
  · have ha : a ∈ (ls[j]?).getD [] := ha
    have hb : a ∈ (ls[k]?).getD [] := hb
    cases e1 : ls[j]? with
    | none => rw [e1] at ha; simp at ha
    | some l =>
      cases e2 : ls[k]? with
      | none => rw [e2] at hb; simp at hb
      | some l' =>
        rw [e1] at ha
        rw [e2] at hb
        exact h.dis e1 e2 ha hb
  · have ha : a ∈ (ls[j]?).getD [] := ha
    cases e1 : ls[j]? with
    | none => rw [e1] at ha; simp at ha
    | some l =>
      rw [e1] at ha
      exact hF l (List.mem_of_getElem? e1) a ha
/-- the slots behind a call -/
theorem back_get : ∀ {rs : List R} {outs : List Iv} {env : Env}, (lent env rs).Nodup → ∀ (i : Nat), ((∀ (j : Nat), rs[j]? = some (R.loan i) → (∃ o, env[i]? = some (some (Iv.own o))) → outs[j]? = none) ∧ (back env rs outs)[i]? = env[i]?) ∨
    ∃ (j : Nat) (o : Ow) (z : Iv), rs[j]? = some (R.loan i) ∧ env[i]? = some (some (Iv.own o)) ∧ outs[j]? = some z ∧ (back env rs outs)[i]? = some (some z)
  | [], outs, env, _, i => .inl ⟨fun j h => by simp at h, by cases outs <;> rfl⟩
  | r :: rs, [], env, _, i => .inl ⟨fun j h _ => by simp, by cases r <;> rfl⟩
  | r :: rs, z :: outs, env, nd, i => by
    have step : ∀ (env' : Env), back env (r :: rs) (z :: outs) = back env' rs outs → lent env' rs = lent env rs → (∀ k, k ≠ i → True) → (env'[i]? = env[i]?) → (∀ o, r = R.loan i → env[i]? ≠ some (some (Iv.own o))) → (lent env rs).Nodup →
        ((∀ (j : Nat), (r :: rs)[j]? = some (R.loan i) → (∃ o, env[i]? = some (some (Iv.own o))) → (z :: outs)[j]? = none) ∧ (back env (r :: rs) (z :: outs))[i]? = env[i]?) ∨
        ∃ (j : Nat) (o : Ow) (z' : Iv), (r :: rs)[j]? = some (R.loan i) ∧ env[i]? = some (some (Iv.own o)) ∧ (z :: outs)[j]? = some z' ∧ (back env (r :: rs) (z :: outs))[i]? = some (some z') := by
      intro env' hb hl _ he hno nd'
      rcases back_get (rs := rs) (outs := outs) (env := env') (by rw [hl]; exact nd') i with ⟨h1, h2⟩ | ⟨j, o, z', h1, h2, h3, h4⟩
      · refine .inl ⟨fun j hj ho => ?_, by rw [hb, h2, he]⟩
        cases j with
        | zero => simp at hj; obtain ⟨o, ho⟩ := ho; exact absurd ho (hno o hj)
        | succ j => simpa using h1 j (by simpa using hj) (by rw [he]; exact ho)
      · exact .inr ⟨j + 1, o, z', by simpa using h1, by rw [← he]; exact h2, by simpa using h3, by rw [hb]; exact h4⟩
    cases r with
    | val t => exact step env rfl rfl (fun _ _ => trivial) rfl (fun o h => by simp at h) nd
    | new t => exact step env rfl rfl (fun _ _ => trivial) rfl (fun o h => by simp at h) nd
    | loan k =>
      simp only [lent] at nd
      cases ek : env[k]? with
      | none =>
        rw [ek] at nd
        refine step env (by simp only [back, ek]) rfl (fun _ _ => trivial) rfl (fun o h => ?_) (List.nodup_cons.mp nd).2
        cases h; rw [ek]; simp
      | some x =>
        cases x with
        | none =>
          rw [ek] at nd
          refine step env (by simp only [back, ek]) rfl (fun _ _ => trivial) rfl (fun o h => ?_) (List.nodup_cons.mp nd).2
          cases h; rw [ek]; simp
        | some iv =>
          cases iv with
          | val t =>
            rw [ek] at nd
            refine step env (by simp only [back, ek]) rfl (fun _ _ => trivial) rfl (fun o h => ?_) nd
            cases h; rw [ek]; simp
          | lck t =>
            rw [ek] at nd
            refine step env (by simp only [back, ek]) rfl (fun _ _ => trivial) rfl (fun o h => ?_) (List.nodup_cons.mp nd).2
            cases h; rw [ek]; simp
          | own o =>
            rw [ek] at nd
            obtain ⟨nk, nd'⟩ := List.nodup_cons.mp nd
            have hb : back env (.loan k :: rs) (z :: outs) = back (env.set k (some z)) rs outs := by simp only [back, ek]
            have hl : ∀ {rs : List R}, k ∉ lent env rs → lent (env.set k (some z)) rs = lent env rs := by
              intro rs
              induction rs with
              | nil => intro _; rfl
              | cons r rs ih =>
                intro hk
                cases r with
                | val t => exact ih hk
                | new t => exact ih hk
                | loan m =>
                  by_cases hm : m = k
                  · subst hm
                    simp only [lent, ek] at hk
                    exact absurd List.mem_cons_self hk
                  · simp only [lent] at hk ⊢
                    rw [List.getElem?_set_ne (Ne.symm hm)]
                    cases em : env[m]? with
                    | none => rw [em] at hk; simp only at hk ⊢; rw [ih fun q => hk (List.mem_cons_of_mem _ q)]
                    | some y =>
                      cases y with
                      | none => rw [em] at hk; simp only at hk ⊢; rw [ih fun q => hk (List.mem_cons_of_mem _ q)]
                      | some y =>
                        cases y with
                        | val _ => rw [em] at hk; simp only at hk ⊢; exact ih hk
                        | own _ => rw [em] at hk; simp only at hk ⊢; rw [ih fun q => hk (List.mem_cons_of_mem _ q)]
                        | lck _ => rw [em] at hk; simp only at hk ⊢; rw [ih fun q => hk (List.mem_cons_of_mem _ q)]
            by_cases hki : k = i
            · subst hki
              refine .inr ⟨0, o, z, rfl, ek, rfl, ?_⟩
              rw [hb]
              rcases back_get (rs := rs) (outs := outs) (env := env.set k (some z)) (by rw [hl nk]; exact nd') k with ⟨_, h2⟩ | ⟨j, o', z', h1, h2, h3, h4⟩
              · rw [h2, List.getElem?_set_self (List.getElem?_eq_some_iff.mp ek).1]
              · -- lent twice
                exfalso
                have mem : ∀ {rs : List R} {j : Nat}, rs[j]? = some (R.loan k) → k ∈ lent env rs := by
                  intro rs
                  induction rs with
                  | nil => intro j h; simp at h
                  | cons r rs ih =>
                    intro j h
                    cases j with
                    | zero =>
                      simp at h
                      subst h
                      simp [lent, ek]
                    | succ j =>
                      have := ih (j := j) (by simpa using h)
                      cases r with
                      | loan m =>
                        simp only [lent]
                        split
                        · exact this
                        · exact List.mem_cons_of_mem _ this
                      | _ => exact this
                exact nk (mem h1)
            · exact step (env.set k (some z)) hb (hl nk) (fun _ _ => trivial) (List.getElem?_set_ne hki) (fun o' h => by cases h; exact absurd rfl hki) nd'
end
end G
namespace G
open PySem PySem.Spec PyProof.Rows L2

/-! # the call of a def -/
section
variable {K : PySem.W.Frag} {W : WX} {σ : L2.St} {env : Env} {H F : Hp} {fp : Nat → List Addr}
theorem AR.append {vs vs' : List V} {ivs : List Iv} {ls : List (List Addr)} {ts : List T} (h : AR K H F vs ivs ls) (d : DenAll K F vs' ts) : AR K H F (vs ++ vs') (ivs ++ ts.map Iv.val) (ls ++ ts.map fun _ => []) := by
  induction h with
  | nil =>
    clear vs ivs ls
    induction vs' generalizing ts with
    | nil => cases d; exact .nil
    | cons v vs' ih =>
      cases d with
      | cons d ds => exact .cons (.val d) (ih ds) fun a ha => by simp at ha
  | cons h hs dj ih =>
    refine .cons h ih fun a ha l' hl' => ?_
    rcases List.mem_append.mp hl' with hl' | hl'
    · exact dj a ha l' hl'
    · obtain ⟨_, _, rfl⟩ := List.mem_map.mp hl'
      simp
theorem back_len : ∀ {rs : List R} {outs : List Iv} {env : Env}, (back env rs outs).length = env.length
  | [], outs, env => by cases outs <;> rfl
  | r :: rs, [], env => by cases r <;> rfl
  | .val _ :: rs, z :: outs, env => back_len (rs := rs)
  | .new _ :: rs, z :: outs, env => back_len (rs := rs)
  | .loan i :: rs, z :: outs, env => by
    simp only [back]
    rw [back_len (rs := rs)]
    split
    · simp
    · rfl
theorem RRs.loanAt : ∀ {rs : List R} {vs : List V} {l : List Addr}, RRs K σ H F rs vs l → ∀ {j i : Nat}, rs[j]? = some (R.loan i) → ∃ v, vs[j]? = some v ∧ σ[i]? = some (some v)
  | _, _, _, .nil, j, i, h => by simp at h
  | _, _, _, .cons h hs d, 0, i, e => by
    simp at e
    subst e
    cases h with
    | loan q => exact ⟨_, rfl, q⟩
  | _, _, _, .cons h hs d, j + 1, i, e => by simpa using RRs.loanAt hs (j := j) (i := i) (by simpa using e)
theorem RRs.lens : ∀ {rs : List R} {vs : List V} {l : List Addr}, RRs K σ H F rs vs l → vs.length = rs.length
  | _, _, _, .nil => rfl
  | _, _, _, .cons h hs d => by rw [List.length_cons, List.length_cons, RRs.lens hs]
theorem argsOf_get : ∀ {rs : List R} {ivs : List Iv}, argsOf env rs = some ivs → ivs.length = rs.length ∧ ∀ {j : Nat} {r : R}, rs[j]? = some r → look env r = ivs[j]?
  | [], ivs, e => by simp [argsOf] at e; subst e; exact ⟨rfl, fun h => by simp at h⟩
  | r :: rs, ivs, e => by
    simp only [argsOf] at e
    cases e1 : look env r with
    | none => rw [e1] at e; simp at e
    | some iv =>
      cases e2 : argsOf env rs with
      | none => rw [e1, e2] at e; simp at e
      | some ivs' =>
        rw [e1, e2] at e
        simp at e
        subst e
        obtain ⟨h1, h2⟩ := argsOf_get e2
        refine ⟨by simp [h1], fun {j r'} h => ?_⟩
        cases j with
        | zero => simp at h; subst h; simpa using e1
        | succ j => simpa using h2 (j := j) (by simpa using h)
def isLn : Option (Option Iv) → Bool
  | some (some (.own _)) => true
  | some (some (.lck _)) => true
  | _ => false
theorem IvR.one {v : V} {iv : Iv} {l : List Addr} {a : Addr} (h : IvR K H F v iv l) (ha : a ∈ l) : l = [a] ∧ v = .ref a ∧ ∀ t, iv ≠ .val t := by
  cases h with
  | val d => simp at ha
  | own h => cases h <;> (simp at ha; subst ha; exact ⟨rfl, rfl, fun t => by simp⟩)
  | lck h => cases h <;> (simp at ha; subst ha; exact ⟨rfl, rfl, fun t => by simp⟩)
theorem IvR.ref {v : V} {iv : Iv} {l : List Addr} (h : IvR K H F v iv l) (hn : ∀ t, iv ≠ .val t) : ∃ a, v = .ref a ∧ l = [a] := by
  cases h with
  | val d => exact absurd rfl (hn _)
  | own h => cases h <;> exact ⟨_, rfl, rfl⟩
  | lck h => cases h <;> exact ⟨_, rfl, rfl⟩
/-- the caller's world behind a call -/
theorem call_back {H0 F0 H' F' : Hp} {P0 : Fp} {rs : List R} {vs dvs : List V} {l : List Addr} {ivs outs : List Iv} {dfl : List T} {fp' : Nat → List Addr} {ls : List (List Addr)}
    (E : EnvR K env σ H F fp) (s : Stp P0 H0 F0 (fpOf env fp) H F) (rr : RRs K σ H F rs vs l) (tm : Tmp H0 P0 F (fpOf env fp) l) (ha : argsOf env rs = some ivs) (nd : (lent env rs).Nodup)
    (ar : AR K H F vs ivs ls) (cl : ∀ (j : Nat) (r : R) (lj : List Addr), rs[j]? = some r → ls[j]? = some lj → (∃ i, r = R.loan i ∧ lj = fp i) ∨ ((∀ i, r ≠ R.loan i) ∧ ∀ a ∈ lj, a ∈ l))
    (E' : EnvR K (outs.map some) ((vs ++ dvs).map some) H' F' fp') (t : Stp (fpOf ((ivs ++ dfl.map Iv.val).map some) fun j => ((ls ++ dfl.map fun _ => [])[j]?).getD []) H F (fpOf (outs.map some) fp') H' F') :
    EnvR K (back env rs outs) σ H' F' (fun i => if isLn ((back env rs outs)[i]?) then fp i else []) ∧ Stp P0 H0 F0 (fpOf (back env rs outs) fun i => if isLn ((back env rs outs)[i]?) then fp i else []) H' F' ∧
    ∀ l', Tmp H (fpOf ((ivs ++ dfl.map Iv.val).map some) fun j => ((ls ++ dfl.map fun _ => [])[j]?).getD []) F' (fpOf (outs.map some) fp') l' → Tmp H0 P0 F' (fpOf (back env rs outs) fun i => if isLn ((back env rs outs)[i]?) then fp i else []) l' := by
  obtain ⟨la, ga⟩ := argsOf_get ha
  have lvs := rr.lens
  have lo : outs.length = (vs ++ dvs).length := by have := E'.len; simpa using this
  -- what the callee owned
  have co : ∀ a, (fpOf ((ivs ++ dfl.map Iv.val).map some) fun j => ((ls ++ dfl.map fun _ => [])[j]?).getD []).own a → (∃ (j i : Nat) (o : Ow), rs[j]? = some (R.loan i) ∧ env[i]? = some (some (Iv.own o)) ∧ a ∈ fp i) ∨ a ∈ l := by
    rintro a ⟨j, o, ej, hj⟩
    have hlt : j < ivs.length := by
      by_cases h : j < ivs.length
      · exact h
      · rw [List.getElem?_map, List.getElem?_append_right (by omega), List.getElem?_map] at ej
        cases q : dfl[j - ivs.length]? with
        | none => rw [q] at ej; simp at ej
        | some t => rw [q] at ej; simp at ej
    have eiv : ivs[j]? = some (Iv.own o) := by
      rw [List.getElem?_map, List.getElem?_append_left hlt] at ej
      simpa using ej
    obtain ⟨v, lj, g1, g2, g3⟩ := ar.get eiv
    have hj : a ∈ ((ls ++ dfl.map fun _ => [])[j]?).getD [] := hj
    rw [List.getElem?_append_left (by rw [ar.len.2]; exact hlt), g2] at hj
    have hj : a ∈ lj := hj
    obtain ⟨r, er⟩ : ∃ r, rs[j]? = some r := ⟨_, List.getElem?_eq_getElem (by omega)⟩
    rcases cl j r lj er g2 with ⟨i, rfl, rfl⟩ | ⟨_, z⟩
    · have hl := ga er
      rw [eiv] at hl
      simp only [look] at hl
      cases q : env[i]? with
      | none => rw [q] at hl; simp at hl
      | some x => rw [q] at hl; simp only at hl; subst hl; exact .inl ⟨j, i, o, er, q, hj⟩
    · exact .inr (z a hj)
  have co0 : ∀ a, (fpOf ((ivs ++ dfl.map Iv.val).map some) fun j => ((ls ++ dfl.map fun _ => [])[j]?).getD []).own a → P0.own a ∨ H0 a = none := fun a h => by
    rcases co a h with ⟨j, i, o, _, q, hi⟩ | h
    · exact s.own a ⟨i, o, q, hi⟩
    · exact (tm a h).2.2
  -- an address of a slot that the callee did not own
  have stay : ∀ i a, a ∈ fp i → (back env rs outs)[i]? = env[i]? → (∀ (j : Nat), rs[j]? = some (R.loan i) → (∃ o, env[i]? = some (some (Iv.own o))) → outs[j]? = none) → ¬ (fpOf ((ivs ++ dfl.map Iv.val).map some) fun j => ((ls ++ dfl.map fun _ => [])[j]?).getD []).own a := by
    intro i a hi _ hno h
    rcases co a h with ⟨j, i', o, ej, q, hi'⟩ | h
    · have := E.dis i i' a hi hi'
      subst this
      have z := hno j ej ⟨o, q⟩
      rw [List.getElem?_eq_none_iff] at z
      have := (List.getElem?_eq_some_iff.mp ej).1
      rw [lo, List.length_append] at z
      omega
    · exact (tm a h).2.1 ⟨i, hi⟩
  -- a lent slot
  have lentI : ∀ {j i : Nat} {o : Ow} {z : Iv}, rs[j]? = some (R.loan i) → env[i]? = some (some (Iv.own o)) → outs[j]? = some z → ∃ a, σ[i]? = some (some (V.ref a)) ∧ fp i = [a] ∧ IvR K H' F' (.ref a) z (fp' j) := by
    intro j i o z ej ei ez
    obtain ⟨v, g1, g2⟩ := rr.loanAt ej
    obtain ⟨v', k1, k2⟩ := E.slot i _ ei
    rw [g2] at k1
    cases k1
    obtain ⟨a, rfl, k3⟩ := k2.ref fun t => by simp
    obtain ⟨v', m1, m2⟩ := E'.slot j z (by rw [List.getElem?_map, ez]; rfl)
    have hlt : j < vs.length := (List.getElem?_eq_some_iff.mp g1).1
    rw [List.getElem?_map, List.getElem?_append_left hlt, g1] at m1
    cases m1
    exact ⟨a, g2, k3, m2⟩
  have sub : ∀ i a, a ∈ (if isLn ((back env rs outs)[i]?) = true then fp i else []) → a ∈ fp i := fun i a h => by
    split at h
    · exact h
    · simp at h
  have hE : EnvR K (back env rs outs) σ H' F' (fun i => if isLn ((back env rs outs)[i]?) then fp i else []) := by
    refine ⟨fun i iv ei => ?_, fun i hi => ?_, fun i k a hi hk => E.dis i k a (sub i a hi) (sub k a hk), fun i a hi => ?_, E'.sub, by rw [back_len]; exact E.len⟩
    · rcases back_get (rs := rs) (outs := outs) nd i with ⟨hno, hb⟩ | ⟨j, o, z, ej, eo, ez, hb⟩
      · obtain ⟨v, g1, g2⟩ := E.slot i iv (by rw [← hb]; exact ei)
        refine ⟨v, g1, ?_⟩
        rw [ei]
        cases iv with
        | val tt =>
          cases hl : fp i with
          | nil => rw [hl] at g2; cases g2 with | val d => exact .val (d.mono t.fz)
          | cons a as =>
            obtain ⟨_, _, z⟩ := g2.one (a := a) (by rw [hl]; exact List.mem_cons_self)
            exact absurd rfl (z _)
        | own o =>
          refine g2.keep (fun a ha => ?_) t.fz
          cases e : H a with
          | none => exact absurd e (g2.here a ha)
          | some ob => exact t.keep a ob e (stay i a ha hb hno)
        | lck o =>
          refine g2.keep (fun a ha => ?_) t.fz
          cases e : H a with
          | none => exact absurd e (g2.here a ha)
          | some ob => exact t.keep a ob e (stay i a ha hb hno)
      · rw [hb] at ei
        cases ei
        obtain ⟨a, g1, g2, g3⟩ := lentI ej eo ez
        refine ⟨_, g1, ?_⟩
        rw [hb]
        cases iv with
        | val tt =>
          cases hl : fp' j with
          | nil => rw [hl] at g3; exact g3
          | cons b bs =>
            obtain ⟨_, _, z⟩ := g3.one (a := b) (by rw [hl]; exact List.mem_cons_self)
            exact absurd rfl (z _)
        | own o' =>
          obtain ⟨b, hb', hl⟩ := g3.ref fun t => by simp
          cases hb'
          show IvR K H' F' _ _ (fp i)
          rw [g2, ← hl]
          exact g3
        | lck o' =>
          obtain ⟨b, hb', hl⟩ := g3.ref fun t => by simp
          cases hb'
          show IvR K H' F' _ _ (fp i)
          rw [g2, ← hl]
          exact g3
    · cases q : (back env rs outs)[i]? with
      | none => simp [isLn]
      | some x =>
        cases x with
        | none => simp [isLn]
        | some iv => exact absurd q (hi iv)
    · have hi' := sub i a hi
      cases e : F' a with
      | none => rfl
      | some ob =>
        exfalso
        rcases t.nfz a (by rw [e]; simp) with z | z | z
        · exact z (E.free i a hi')
        · rcases back_get (rs := rs) (outs := outs) nd i with ⟨hno, hb⟩ | ⟨j, o, z', ej, eo, ez, hb⟩
          · exact stay i a hi' hb hno z
          · rw [hb] at hi
            obtain ⟨b, g1, g2, g3⟩ := lentI ej eo ez
            cases z' with
            | val t => simp [isLn] at hi
            | own o' =>
              obtain ⟨c, hb', hl⟩ := g3.ref fun t => by simp
              cases hb'
              rw [g2] at hi'
              have := E'.free j a (by rw [hl]; exact hi')
              rw [e] at this; cases this
            | lck o' =>
              obtain ⟨c, hb', hl⟩ := g3.ref fun t => by simp
              cases hb'
              rw [g2] at hi'
              have := E'.free j a (by rw [hl]; exact hi')
              rw [e] at this; cases this
        · exact E.here i a hi' z
  refine ⟨hE, ⟨fun a ob e hn => ?_, s.fz.trans t.fz, fun a h => ?_, ?_, ?_, ?_⟩, ?_⟩
  · exact t.keep a ob (s.keep a ob e hn) fun h => (co0 a h).elim hn fun z => by rw [e] at z; cases z
  · rcases t.nfz a h with h | h | h
    · exact s.nfz a h
    · exact .inr (co0 a h)
    · exact .inr (s.back h)
  · rintro a ⟨i, o, ei, hi⟩
    have hi' := sub i a hi
    rcases back_get (rs := rs) (outs := outs) nd i with ⟨hno, hb⟩ | ⟨j, o', z', ej, eo, ez, hb⟩
    · exact s.own a ⟨i, o, by rw [← hb]; exact ei, hi'⟩
    · exact s.own a ⟨i, o', eo, hi'⟩
  · rintro a ⟨i, hi⟩
    exact s.all a ⟨i, sub i a hi⟩
  · rintro i a ⟨o, ei, hi⟩
    have hi' := sub i a hi
    rcases back_get (rs := rs) (outs := outs) nd i with ⟨hno, hb⟩ | ⟨j, o', z', ej, eo, ez, hb⟩
    · exact s.lk i a ⟨o, by rw [← hb]; exact ei, hi'⟩
    · exfalso
      rw [hb] at ei
      cases ei
      obtain ⟨b, g1, g2, g3⟩ := lentI ej eo ez
      obtain ⟨c, hb', hl⟩ := g3.ref fun t => by simp
      obtain ⟨o3, q, _⟩ := t.lk j c ⟨o, by rw [List.getElem?_map, ez]; rfl, by rw [hl]; exact List.mem_cons_self⟩
      have hlt : j < ivs.length := by have := (List.getElem?_eq_some_iff.mp ej).1; omega
      rw [List.getElem?_map, List.getElem?_append_left hlt, ← ga ej] at q
      simp only [look, eo] at q
      cases q
  · intro l' tl a ha'
    obtain ⟨h1, h2, h3⟩ := tl a ha'
    refine ⟨h1, ?_, ?_⟩
    · rintro ⟨i, hi⟩
      have hi' := sub i a hi
      rcases h3 with h3 | h3
      · rcases back_get (rs := rs) (outs := outs) nd i with ⟨hno, hb⟩ | ⟨j, o', z', ej, eo, ez, hb⟩
        · exact stay i a hi' hb hno h3
        · have hi : a ∈ (if isLn ((back env rs outs)[i]?) = true then fp i else []) := hi
          rw [hb] at hi
          obtain ⟨b, g1, g2, g3⟩ := lentI ej eo ez
          cases z' with
          | val t => simp [isLn] at hi
          | own o' =>
            obtain ⟨c, hb', hl⟩ := g3.ref fun t => by simp
            cases hb'
            exact h2 ⟨j, by rw [hl, ← g2]; exact hi'⟩
          | lck o' =>
            obtain ⟨c, hb', hl⟩ := g3.ref fun t => by simp
            cases hb'
            exact h2 ⟨j, by rw [hl, ← g2]; exact hi'⟩
      · exact E.here i a hi' h3
    · exact h3.elim (co0 a) s.back
end
end G
namespace G
open PySem PySem.Spec PyProof.Rows L2

section
variable {gq : Bool} {X : Cx} {W : WX} {k : Nat} {f : Addr} {fd : FuncData} {ps : List Str} {dvs : List V} {ds : List Value} {x : Str} {p pos : Pos} {es : List Expr} {C : Nat → List Iv → Res} {fi : Nat} {dfl : List T} {m : Env → Out (List R)}
theorem run_g {pins : List (Addr × Obj)} {σ : L2.St} {H : Hp} {s : Shared} {Q : VK} {us : List Value} {vs : List V} {sp : Sp} (Fn : FnG gq X.prog X.w X.K X.mg X.base k f fd ps sp) (hr : Room k X.A) (hgd : gq = true → X.A.guards = some []) (hb : Binds X.K fd ps ds) (hd : Vals dvs ds) (tk : Takes X W)
    (I : Inv X pins σ H s) (r : Vals vs us) (h : sp (vs ++ dvs) H Q fun cls d H' => W cls d σ H') : wpAny (model X.prog X.w) X.A (call (.ref f) us) (EP X pins σ Q) X.xe s := by
  have r2 : Vals (vs ++ dvs) (us ++ ds) := r.append hd
  have hl : (us ++ ds).length = ps.length := by rw [← r2.length]; exact Fn.len _ _ _ _ h
  refine wpAny_call (codeAny_mono (Fn.run X.A X.stack s H ⟨us, []⟩ (us ++ ds) (vs ++ dvs) Q _ hr hgd I.env0 (hb s us I.kIn hl) r2 h) fun r s' hq => ?_)
  cases r with
  | error e => exact tk e s' (XE.of_call I (fun _ _ _ q => q) hq)
  | ok fl =>
    cases fl with
    | ret u => exact I.after hq
    | next => exact False.elim hq
    | brk => exact False.elim hq
    | cont => exact False.elim hq
/-- the meaning of a call, in the worlds -/
theorem call_sp {K : PySem.W.Frag} {W : WX} {σ : L2.St} {env : Env} {H F H0 F0 : Hp} {fp : Nat → List Addr} {P0 : Fp} {rs : List R} {vs dvs : List V} {l : List Addr} {dfl : List T} {Q : VK}
    (E : EnvR K env σ H F fp) (s : Stp P0 H0 F0 (fpOf env fp) H F) (rr : RRs K σ H F rs vs l) (tm : Tmp H0 P0 F (fpOf env fp) l) (dd : DenAll K F dvs dfl)
    (q : (callR C fi dfl env rs).asks K W σ H0 F0 P0 (Ask K σ H0 P0 Q)) : spF K (C fi) (vs ++ dvs) H Q fun cls d H' => W cls d σ H' := by
  unfold callR at q
  cases e1 : argsOf env rs with
  | none => rw [e1] at q; exact q.elim
  | some ivs =>
    rw [e1] at q
    simp only at q
    split at q
    · rename_i nd
      obtain ⟨ls, ar, cl, cl2⟩ := args_ok E rr (fun a ha => (tm a ha).2.1) e1 nd
      have hF : ∀ lj ∈ ls, ∀ a ∈ lj, F a = none := fun lj hlj a ha => by
        rcases cl2 lj hlj with z | ⟨i, _, rfl⟩
        · exact (tm a (z a ha)).1
        · exact E.free i a ha
      refine ⟨ivs ++ dfl.map Iv.val, F, _, (ar.append dd).toEnv E.sub fun lj hlj a ha => ?_, ?_⟩
      · rcases List.mem_append.mp hlj with hlj | hlj
        · exact hF lj hlj a ha
        · obtain ⟨_, _, rfl⟩ := List.mem_map.mp hlj
          simp at ha
      · cases ec : C fi (ivs ++ dfl.map Iv.val) with
        | stuck => rw [ec] at q; exact q.elim
        | exc x outs =>
          rw [ec] at q
          intro cls d H' F' fp' E' t xr
          obtain ⟨hE, hS, _⟩ := call_back E s rr tm e1 nd ar cl E' t
          exact q cls d H' F' _ hE hS xr
        | ok r outs =>
          rw [ec] at q
          intro H' F' fp' E' t v l' iv tl
          obtain ⟨hE, hS, hT⟩ := call_back E s rr tm e1 nd ar cl E' t
          cases r with
          | val t' => exact q H' F' _ hE hS v l' (by cases iv with | val d => exact .val d) (hT _ tl)
          | own o => exact q H' F' _ hE hS v l' (by cases iv with | own d => exact .new d) (hT _ tl)
          | lck o => exact q.elim
    · exact q.elim
theorem se_call {e : Expr} (Fn : FnG gq X.prog X.w X.K X.mg X.base k f fd ps (spF X.K (C fi))) (hr : Room k X.A) (hgd : gq = true → X.A.guards = some []) (hg : Gl X x) (hm : X.mg x = some (.ref f)) (hk : PySem.W.keepIn X.K (.ref f) = true) (hb : Binds X.K fd ps ds) (hd : Vals dvs ds) (hdd : ∀ F, DenAll X.K F dvs dfl)
    (tk : Takes X W) (ha : PA X (e :: es) (tA X.K W m)) (hdb : (x == ("__debug__" : Str)) = false) (hns : noStar (e :: es) = true) :
    PE X (.Call (.Name x p) (e :: es) [] pos) (tE X.K W fun env => (m env).bind fun rs e1 => callR C fi dfl e1 rs) := by
  refine ⟨fun pins s σ H Q I h => ?_⟩
  refine wpAny_Call_Name_kw (ld_glob I hg hm ?_ hdb)
  obtain ⟨env, F, fp, E, q⟩ := h
  have t := tA_intro (Q := fun vs H1 => spF X.K (C fi) (vs ++ dvs) H1 Q fun cls d H' => W cls d σ H') E Stp.refl q fun rs env2 H2 F2 fp2 vs l E2 s2 rr tm qq => call_sp E2 s2 rr tm (hdd F2) qq
  have h2 : noStarE e = true ∧ noStar es = true := by simpa [noStar] using hns
  refine PySem.W.callWith_K (h₀ := X.base) I.ok.mod.kin hk (thn (ha.run pos pins s σ H _ I t) fun us s1 ⟨vs, H1, I1, r, q⟩ => ⟨I1.kIn, ?_⟩) (star_cons h2.1) (star_any h2.2)
  exact run_g Fn hr hgd hb hd tk I1 r q
theorem se_call0 (Fn : FnG gq X.prog X.w X.K X.mg X.base k f fd ps (spF X.K (C fi))) (hr : Room k X.A) (hgd : gq = true → X.A.guards = some []) (hg : Gl X x) (hm : X.mg x = some (.ref f)) (hk : PySem.W.keepIn X.K (.ref f) = true) (hb : Binds X.K fd ps ds) (hd : Vals dvs ds) (hdd : ∀ F, DenAll X.K F dvs dfl)
    (tk : Takes X W) (hdb : (x == ("__debug__" : Str)) = false) :
    PE X (.Call (.Name x p) [] [] pos) (tE X.K W fun env => callR C fi dfl env []) := by
  refine ⟨fun pins s σ H Q I h => ?_⟩
  refine wpAny_Call_Name_kw (ld_glob I hg hm ?_ hdb)
  obtain ⟨env, F, fp, E, q⟩ := h
  have t := call_sp (vs := []) (l := []) E Stp.refl .nil .nil (hdd F) q
  exact PySem.W.callWith_K0 I.kIn hk (run_g (us := []) Fn hr hgd hb hd tk I .nil t)
end

/-! # a def of the text -/
theorem guards_deeper {A : Around} {env : PySem.Env} (h : A.guards = some []) : (A.deeper env).guards = some [] := h
theorem fn_g {gq : Bool} {P : Program} {w : World} {K : PySem.W.Frag} {mg : Str → Option Value} {base : Heap} {k : Nat} {f : Addr} {name qual : Str} {params : Arguments} {body : List Stmt} {scope : Scope} {dV kV doc pm cdv ct oc : Value} {an od : Option Addr}
    {slots0 : Array (Option Value)} {N ps : List Str} {sp : Sp} (look0 : K.lookup f = some ⟨oc, od, .func (PySem.W.fnOf name qual params body scope dV kV doc pm an cdv ct), slots0⟩) (code0 : PySem.W.codeIn K cdv qual = true) (S : FnScope N ps scope)
    (lens : ∀ vs H Q E, sp vs H Q E → vs.length = ps.length)
    (hbody : ∀ (A : Around) (frs0 : List PySem.Env) (s : Shared) (H : Hp) (vs : List V) (Q : VK) (E : XK), Room k (A.deeper (envOfC qual scope s.heap.objs.size f cdv)) → (gq = true → A.guards = some []) → sp vs H Q E →
      ∃ t, PSs (cxOf (CX P w) P w K mg base N qual scope f cdv A frs0 s H E) body t ∧ t { nx := fun _ H' => Q .non H', rt := Q } (start N vs) H) :
    FnG gq P w K mg base (k + 1) f (PySem.W.fnOf name qual params body scope dV kV doc pm an cdv ct) ps sp := by
  refine ⟨lens, fun A frs0 s H args us vs Q E hr gd here0 hb r want => ?_⟩
  have hlen := lens _ _ _ _ want
  have kin1 : K.In s.heap := here0.mod.kin.keeps fun b o e => (here0.bs b o e).1
  have nol : s.heap.NoLimit := here0.mod.nolimit.keeps fun b o e => (here0.bs b o e).1
  have kinds : ∀ y ∈ ps.zip us, scope.names.lookup y.1 = some .local ∨ (scope.names.lookup y.1 = some .cell ∧ ((cellsFrom (s.heap.objs.size + 1) scope.names []).lookup y.1).isSome = true) := fun ⟨n, v⟩ hy => by
    rcases S.par n (List.of_mem_zip hy).1 with here | here
    · exact Or.inl here
    · exact Or.inr ⟨here, PySem.W.cellsFrom_some _ _ _ (.inl here)⟩
  refine codeAny_call_function hr.depth (kin1 _ _ look0) rfl S.co S.gen rfl (PySem.W.codeRec_of kin1 code0) (hb _ _ _ _ ?_)
  refine wpAny_newFunctionEnv_cells S.kind kinds fun env he s1 x => ?_
  subst he
  refine ⟨nol.keeps x.toInCall.keep, codeAny_func ?_⟩
  obtain ⟨t, walk, reads⟩ := hbody A frs0 s H vs Q E (hr.deeper _) gd want
  have I : Inv (cxOf (CX P w) P w K mg base N qual scope f cdv A frs0 s H E) [] (start N vs) H s1 := inv_start S hr.hd here0 hlen r x
  refine wpAny_mono (walk.run [] s1 (start N vs) H _ I reads) (fun fl s' res => ?_) fun e s' res => res
  have ending : ∀ {σ' : L2.St} {H' : Hp} {v : V} {u : Value}, Inv (cxOf (CX P w) P w K mg base N qual scope f cdv A frs0 s H E) [] σ' H' s' → RelV v u → Q v H' → CE frs0 P w H s Q u s' :=
    fun {σ' H' v u} J rv q => ⟨v, H', J.os, J.bare, J.base, J.hok, rv, q⟩
  cases fl with
  | ret u =>
    obtain ⟨v, σ', H', J, rv, q⟩ := res
    exact ending J rv q
  | next =>
    obtain ⟨σ', H', J, q⟩ := res
    exact ending (v := V.non) (u := Value.none) J rfl q
  | brk =>
    obtain ⟨_, _, _, q⟩ := res
    exact False.elim q
  | cont =>
    obtain ⟨_, _, _, q⟩ := res
    exact False.elim q
end G
namespace G
open PySem PySem.Spec PyProof.Rows L2

/-! # sorted by length, then by the items -/
theorem lexI_le : ∀ a b : List Int, lexI a b = decide (a ≤ b)
  | [], b => by simp [lexI]
  | x :: xs, [] => by simp [lexI]
  | x :: xs, y :: ys => by
    unfold lexI
    rw [lexI_le xs ys, Bool.eq_iff_iff]
    simp [List.cons_le_cons_iff]
theorem leLF_iff {a b : List Int} : leLF a b = true ↔ a.length < b.length ∨ (a.length = b.length ∧ a ≤ b) := by
  unfold leLF; rw [lexI_le]; simp
theorem leLF_trans {a b c : List Int} (h : leLF a b = true) (k : leLF b c = true) : leLF a c = true := by
  rw [leLF_iff] at *
  rcases h with h | ⟨h1, h2⟩
  · rcases k with k | ⟨k1, k2⟩
    · exact .inl (by omega)
    · exact .inl (by omega)
  · rcases k with k | ⟨k1, k2⟩
    · exact .inl (by omega)
    · exact .inr ⟨by omega, List.le_trans h2 k2⟩
theorem leLF_total (a b : List Int) : (leLF a b || leLF b a) = true := by
  rw [Bool.or_eq_true, leLF_iff, leLF_iff]
  rcases Nat.lt_trichotomy a.length b.length with h | h | h
  · exact .inl (.inl h)
  · rcases List.le_total a b with q | q
    · exact .inl (.inr ⟨h, q⟩)
    · exact .inr (.inr ⟨h.symm, q⟩)
  · exact .inr (.inl h)
theorem leLF_anti {a b : List Int} (h : leLF a b = true) (k : leLF b a = true) : a = b := by
  rw [leLF_iff] at *
  rcases h with h | ⟨h1, h2⟩
  · rcases k with k | ⟨k1, k2⟩ <;> omega
  · rcases k with k | ⟨k1, k2⟩
    · omega
    · exact List.le_antisymm h2 k2
theorem insLF_perm (x : List Int) : ∀ l : List (List Int), (insLF x l).Perm (x :: l)
  | [] => .refl _
  | y :: ys => by
    unfold insLF
    split
    · exact .refl _
    · exact (List.Perm.cons y (insLF_perm x ys)).trans (List.Perm.swap x y ys)
theorem sortLF_perm : ∀ l : List (List Int), (sortLF l).Perm l
  | [] => .refl _
  | x :: l => (insLF_perm x _).trans ((sortLF_perm l).cons x)
theorem insLF_srt (x : List Int) : ∀ l : List (List Int), l.Pairwise (fun a b => leLF a b = true) → (insLF x l).Pairwise fun a b => leLF a b = true
  | [], _ => by simp [insLF]
  | y :: ys, h => by
    unfold insLF
    split
    · rename_i hxy
      refine List.pairwise_cons.mpr ⟨fun z hz => ?_, h⟩
      rcases List.mem_cons.mp hz with e | hz
      · rw [e]; exact hxy
      · exact leLF_trans hxy ((List.pairwise_cons.mp h).1 z hz)
    · rename_i hxy
      refine List.pairwise_cons.mpr ⟨fun z hz => ?_, insLF_srt x ys (List.pairwise_cons.mp h).2⟩
      rcases List.mem_cons.mp ((insLF_perm x ys).mem_iff.mp hz) with e | hz
      · rw [e]
        have := leLF_total x y
        simpa [hxy] using this
      · exact (List.pairwise_cons.mp h).1 z hz
theorem sortLF_srt : ∀ l : List (List Int), (sortLF l).Pairwise fun a b => leLF a b = true
  | [] => .nil
  | x :: l => insLF_srt x _ (sortLF_srt l)
def lfKey (ns : List Int) : PyData := .tuple [.int (ns.length : Int), .tuple (ns.map .int)]
theorem eqvAll_i : ∀ xs ys : List Int, PyData.eqvAll (xs.map .int) (ys.map .int) = decide (xs = ys)
  | [], [] => by simp [PyData.eqvAll]
  | [], _ :: _ => by simp [PyData.eqvAll]
  | _ :: _, [] => by simp [PyData.eqvAll]
  | x :: xs, y :: ys => by
    simp only [List.map_cons, PyData.eqvAll, PyData.eqv, eqvAll_i xs ys]
    rw [Bool.eq_iff_iff]
    simp
theorem dataLe_lf : PySem.W.dataLe false lfKey = leLF := by
  funext a b
  show (!PySem.W.dataLt (lfKey b) (lfKey a)) = _
  unfold lfKey
  have al : ∀ xs ys : List Int, PySem.W.alike (.tuple (xs.map .int)) (.tuple (ys.map .int)) = true := fun xs ys => by
    simp only [PySem.W.alike]; exact PySem.W.alike_ints xs ys
  rw [PySem.W.dataLt_pair (by simp [PySem.W.alike]) (al b a), PySem.W.dataLt_int]
  have e1 : PyData.eqv (.tuple (b.map .int)) (.tuple (a.map .int)) = decide (b = a) := eqvAll_i b a
  have e0 : PyData.eqv (.int (b.length : Int)) (.int (a.length : Int)) = decide ((b.length : Int) = a.length) := by simp only [PyData.eqv]; rw [Bool.eq_iff_iff]; simp
  have e2 : PySem.W.dataLt (.tuple (b.map .int)) (.tuple (a.map .int)) = decide (b < a) := by
    rw [PySem.W.dataLt_tuple]; exact PySem.W.dataLt_ints b a
  simp only [e0, e1, e2, decide_eq_true_eq]
  rw [Bool.eq_iff_iff, leLF_iff]
  have ol : ((b.length : Int) = a.length) ↔ b.length = a.length := by omega
  have ll : ((b.length : Int) < a.length) ↔ b.length < a.length := by omega
  by_cases h1 : b.length = a.length
  · have h1' : (b.length : Int) = a.length := by omega
    by_cases h2 : b = a
    · subst h2
      simp
    · by_cases h3 : b < a
      · simp [h1', h2, h3]
        omega
      · simp [h1', h2, h3]
        exact .inr ⟨h1.symm, List.not_lt.mp h3⟩
  · have h1' : ¬ (b.length : Int) = a.length := by omega
    simp [h1', ll]
    omega
theorem sortLF_eq (l : List (List Int)) : l.mergeSort (PySem.W.dataLe false lfKey) = sortLF l := by
  rw [dataLe_lf]
  exact List.Perm.eq_of_pairwise (fun a b _ _ h k => leLF_anti h k) (List.pairwise_mergeSort (le := leLF) (fun a b c h k => leLF_trans h k) leLF_total l) (sortLF_srt l) ((List.mergeSort_perm l leLF).trans (sortLF_perm l).symm)
end G
namespace G
open PySem PySem.Spec PyProof.Rows L2

/-! # a key that is a text of the program: (len(x), x) -/
/-- the def's text -/
def lfText (st : Stmt) : Option Str := match defBody st with
  | [.Return (some (.Tuple [.Call (.Name l _) [.Name x _] [] _, .Name y _] _ _)) _] => if l = ("len" : Str) ∧ x = y ∧ (defScope st).names.lookup x = some .local ∧ (defScope st).names.lookup l = some .globalImplicit ∧ x ≠ ("__debug__" : Str) then some x else none
  | _ => none
theorem reads_ints {h : Heap} : ∀ {ns : List Int} {its : List Value}, Vals (ns.map V.int) its → ReadsAll h its (ns.map .int) []
  | [], _, .nil => .nil
  | n :: ns, _, .cons r rs => by
    obtain ⟨t, rfl⟩ := r
    exact .cons (as := []) (bs := []) (.int n t) (reads_ints rs)
theorem reads_tup {h : Heap} {a : Addr} {ns : List Int} {its : List Value} (ht : IsTup h a its.toArray) (r : Vals (ns.map V.int) its) : Reads h (.ref a) (.tuple (ns.map .int)) [] := by
  obtain ⟨o, e, hc, n, hd⟩ := ht
  exact .tuple e hc hd (by simpa using reads_ints r)
structure LfOk (K : PySem.W.Frag) (mg : Str → Option Value) (f : Addr) : Prop where
  ex : ∃ (x p : Str) (st : Stmt) (oc : Value) (od : Option Addr) (dV kV doc pm : Value) (an : Option Addr) (cdv ct : Value) (osl : Array (Option Value)) (fd : FuncData),
    fd = PySem.W.fnOf x x (defArgs st) (defBody st) (defScope st) dV kV doc pm an cdv ct ∧ K.lookup f = some ⟨oc, od, .func fd, osl⟩ ∧ PySem.W.codeIn K cdv x = true ∧ lfText st = some p ∧ FnScope [p] [p] (defScope st) ∧ Binds K fd [p] []
  len : mg "len" = none
theorem lf_call {P : Program} {w : World} {K : PySem.W.Frag} {mg : Str → Option Value} {base : Heap} {A : Around} {s : Shared} {f a : Addr} {ns : List Int} {its : List Value} (L : LfOk K mg f) (M : Mod K mg base) (kb : ∀ b o, base.get? b = some o → s.heap.get? b = some o)
    (hdep : A.depth < recursionLimit) (ht : IsTup s.heap a its.toArray) (r : Vals (ns.map V.int) its) (hz : ns.length ≤ sizeLine) :
    wpAny (model P w) A (call (.ref f) [.ref a]) (PySem.W.KeyPure (lfKey ns) s) (fun _ _ => False) s := by
  obtain ⟨⟨x, p, st, oc, od, dV, kV, doc, pm, an, cdv, ct, osl, fd, rfl, lk, hcd, hb, S, hbd⟩, hlen⟩ := L
  have KX : K.In s.heap := M.kin.keeps kb
  have lim := M.nolimit.keeps kb
  obtain ⟨mb, nb, hbb⟩ := M.blt
  unfold lfText at hb
  split at hb
  · rename_i l q1 y q2 q3 z q4 kk q5 q6 eb
    split at hb
    · rename_i hc
      obtain ⟨e1, e2, hx, hl, hdb⟩ := hc
      subst e1 e2
      injection hb with hb
      subst hb
      refine wpAny_call (codeAny_call_function hdep (KX _ _ lk) rfl S.co S.gen rfl (PySem.W.codeRec_of KX hcd) (hbd s [.ref a] KX rfl _ _ _ _ ?_))
      refine wpAny_newFunctionEnv_cells S.kind (fun q hq => ?_) fun env he s1 xx => ?_
      · have hq := List.mem_singleton.mp hq
        subst hq
        exact .inl hx
      · subst he
        refine ⟨lim.keeps xx.toInCall.keep, codeAny_func ?_⟩
        obtain ⟨h1, tk, rfl, hk⟩ := xx.done
        have ke : ∀ z, (envOfC x (defScope st) s.heap.objs.size f cdv).kindOf z = (defScope st).names.lookup z := fun z => rfl
        have nl : h1.Ns s.heap.objs.size (bindL (envOfC x (defScope st) s.heap.objs.size f cdv).kindOf [(y, .ref a)] fun _ => none) := xx.toInCall.ns
        have hy : bindL (envOfC x (defScope st) s.heap.objs.size f cdv).kindOf [(y, .ref a)] (fun _ => none) y = some (.ref a) := by
          have := bindL_get (kindOf := (envOfC x (defScope st) s.heap.objs.size f cdv).kindOf) (x := y) (v := .ref a) (P := [y]) (vs := [.ref a]) (i := 0) (m := fun _ => none) (by simp) rfl rfl (by rw [ke]; exact hx)
          exact this
        have k1 : ∀ b o, base.get? b = some o → h1.get? b = some o := fun b o e => hk b o (kb b o e)
        have gl : ∀ (toks : Nat) {A' : Around} {Q : Value → Shared → Prop} {E : Value → Shared → Prop}, Q (.builtin "len") { s with heap := h1, toks := toks } → wpAny (model P w) A' (eval (.Name "len" q1) (envOfC x (defScope st) s.heap.objs.size f cdv)) Q E { s with heap := h1, toks := toks } := fun toks {A' Q E} q =>
          Calls.Name_function_global S.kind hl (Calls.loadGlobal_builtin (M.glob.keeps k1) hlen (nb.keeps k1) ((hbb _ (by decide)).trans PySem.boot_len) q)
        have ly : ∀ (toks : Nat) {A' : Around} {Q : Value → Shared → Prop} {E : Value → Shared → Prop} {pp : Pos}, Q (.ref a) { s with heap := h1, toks := toks } → wpAny (model P w) A' (eval (.Name y pp) (envOfC x (defScope st) s.heap.objs.size f cdv)) Q E { s with heap := h1, toks := toks } := fun toks {A' Q E pp} q =>
          wpAny_Name (wpAny_loadName_local S.kind hx nl hy q) (by simpa using hdb)
        have ht1 : IsTup h1 a its.toArray := ht.keeps hk
        have hlv : its.length = ns.length := by rw [← r.length, List.length_map]
        have hline := line63
        show wpAny (model P w) (A.deeper (envOfC x (defScope st) s.heap.objs.size f cdv)) (execs (defBody st) (envOfC x (defScope st) s.heap.objs.size f cdv)) _ _ _
        rw [eb]
        refine wpAny_execs_cons (wpAny_Return_some (Tuple_ ?_))
        show wpAny _ _ (spliced ((false, eval (.Call (.Name "len" q1) [.Name y q2] [] q3) (envOfC x (defScope st) s.heap.objs.size f cdv)) :: backTo q5 (starEach [.Name y q4] (envOfC x (defScope st) s.heap.objs.size f cdv)))) _ _ _
        refine Calls.spliced_cons ?_
        refine wpAny_Call_Name_kw (gl tk ?_)
        refine PyProof.Rows.callWith_builtin1 ?_ rfl rfl
        show wpAny _ _ (spliced ((false, eval (.Name y q2) (envOfC x (defScope st) s.heap.objs.size f cdv)) :: backTo q3 (starEach [] (envOfC x (defScope st) s.heap.objs.size f cdv)))) _ _ _
        refine Calls.spliced_cons (ly tk ?_)
        refine Calls.spliced_nil ?_
        refine len_tuple ht1 (by rw [List.size_toArray, hlv]; omega) ?_
        show wpAny _ _ (spliced ((false, eval (.Name y q4) (envOfC x (defScope st) s.heap.objs.size f cdv)) :: backTo q5 (starEach [] (envOfC x (defScope st) s.heap.objs.size f cdv)))) _ _ _
        refine Calls.spliced_cons (ly _ ?_)
        refine Calls.spliced_nil ?_
        refine wpAny_newObj_type ?_ (by show 2 ≤ sizeLine; decide)
        refine ⟨_, _, rfl, fun b o e => Heap.get?_push_of_some _ (hk b o e), ?_⟩
        refine .tuple (Heap.get?_push_size _ rfl) rfl rfl (.cons (as := []) (bs := []) ?_ (.cons (as := []) (bs := []) ?_ .nil))
        · rw [List.size_toArray, hlv]
          exact .int _ _
        · exact reads_tup (ht1.keeps fun b o e => Heap.get?_push_of_some _ e) r
    · cases hb
  · cases hb
end G
namespace G
open PySem PySem.Spec PyProof.Rows L2

theorem rowsI_den {K : PySem.W.Frag} {F : Hp} : ∀ {xs : List T} {vs : List V} {bs : List (List Int)}, rowsI xs = some bs → DenAll K F vs xs → DenAll K F vs (bs.map rowT)
  | [], vs, bs, h, d => by cases h; exact d
  | x :: xs, vs, bs, h, d => by
    cases x with
    | tup ts =>
      simp only [rowsI, Option.bind_eq_some_iff, Option.map_eq_some_iff] at h
      obtain ⟨ns, hn, bs', hb, rfl⟩ := h
      cases d with
      | cons d ds =>
        refine .cons ?_ (rowsI_den hb ds)
        have e : ts = ns.map T.int := by
          clear d ds
          induction ts generalizing ns with
          | nil => simp [intsT] at hn; subst hn; rfl
          | cons t ts ih =>
            cases t <;> simp [intsT] at hn
            obtain ⟨a, ha, rfl⟩ := hn
            rw [ih a ha]
            rfl
        subst e
        exact d
    | _ => simp [rowsI] at h
def rLF (K : PySem.W.Frag) (f : Addr) : List V → List V → Hp → VK → Prop := fun vs zs H Q => ∃ (F : Hp) (a : Addr) (ws : List V) (bs : List (List Int)), Same F H ∧ vs = [.ref a] ∧ zs = [.ref f] ∧ SqL K H a ws ∧ DenAll K F ws (bs.map rowT) ∧ bs.length ≤ sizeLine ∧
  ∀ p vs', H p = none → DenAll K F vs' ((sortLF bs).map rowT) → Q (.ref p) (upd H p (.lst vs'))
theorem each_of {K : PySem.W.Frag} {F : Hp} : ∀ {ws : List V} {its : List Value} {bs : List (List Int)}, Vals ws its → DenAll K F ws (bs.map rowT) → PySem.W.EachIs (fun v ns => ∃ u, RelV u v ∧ Den K F u (rowT ns)) its bs
  | _, _, [], .nil, _ => .nil
  | _, _, b :: bs, .cons r rs, d => by
    cases d with
    | cons d ds => exact .cons ⟨_, r, d⟩ (each_of rs ds)
  | _, _, b :: bs, .nil, d => by cases d
  | _, _, [], .cons _ _, d => by cases d
theorem of_each {K : PySem.W.Frag} {F : Hp} : ∀ {its : List Value} {bs : List (List Int)}, PySem.W.EachIs (fun v ns => ∃ u, RelV u v ∧ Den K F u (rowT ns)) its bs → ∃ ws, Vals ws its ∧ DenAll K F ws (bs.map rowT)
  | _, _, .nil => ⟨[], .nil, .nil⟩
  | _, _, .cons h hs => by
    obtain ⟨u, hr, hd⟩ := h
    obtain ⟨ws, h1, h2⟩ := of_each hs
    exact ⟨u :: ws, .cons hr h1, .cons hd h2⟩
theorem depth0 : ∀ x : List Int, PyData.depthAll (x.map .int) = 0
  | [] => by simp [PyData.depthAll]
  | y :: ys => by simp [PyData.depthAll, PyData.depth, depth0 ys]
theorem cr_sortLF {X : Cx} {f : Addr} (L : LfOk X.K X.mg f) (hdep : X.A.depth < recursionLimit) (hu : X.A.units + 65 < cLine) : CallRK X (.builtin "sorted") [Str.ofString "key"] (rLF X.K f) := by
  intro pins s σ H vs zs us ws Q I r rz h
  obtain ⟨F, a, wv, bs, hs, rfl, rfl, hq, hd, hz, q⟩ := h
  obtain ⟨u1, rfl, e1⟩ := vals1 r
  obtain rfl : u1 = Value.ref a := e1
  obtain ⟨w1, rfl, e1⟩ := vals1 rz
  obtain rfl : w1 = Value.ref f := e1
  obtain ⟨its, rv, hl, _⟩ := I.list hq
  refine PySem.W.sorted_key_data (b := false) lfKey hl.isList (each_of rv hd) (PySem.W.AllAlike.of fun x y => ?_) (PySem.W.Sortable.tuples fun x => ⟨_, _, rfl⟩) hz (fun x _ => ?_) (ksk_s1 _ _) (fun _ => ksk_l1 _ _) (fun _ => ksk_t1 _ _) (fun v x hv _ h tk kp => ?_) fun out c h' tk kp hf hD hlen eo => ?_
  · simp only [lfKey, PySem.W.alike, PySem.W.alikeAll, Bool.true_and, Bool.and_true]
    exact PySem.W.alike_ints x y
  · have hd : (lfKey x).depth ≤ 3 := by
      have := depth0 x
      simp only [lfKey, PyData.depth, PyData.depthAll]
      omega
    omega
  · obtain ⟨u, ru, du⟩ := hv
    obtain ⟨c, vs2, rfl, hc, d2⟩ := du.tup'
    have e2 := d2.ints
    subst e2
    obtain rfl : v = Value.ref c := ru
    obtain ⟨its2, rv2, ht, hz2⟩ := I.tuple (same_t hs hc)
    exact lf_call L I.ok.mod (fun b o e => kp b o (I.bk b o e)) hdep (ht.keeps kp) rv2 (by simpa using hz2)
  · rw [sortLF_eq] at eo
    obtain ⟨ws', h1, h2⟩ := of_each eo
    have hfr : H (s.heap.objs.size + 1) = none := I.hok.fresh (Nat.le_succ _)
    have hlen' : ws'.length ≤ sizeLine := by rw [h1.length, hlen]; exact hz
    exact ⟨.ref _, upd H (s.heap.objs.size + 1) (.lst ws'), I.laid (t' := tk) kp (Nat.le_succ _) ⟨hlen', _, c, h1, hD⟩, rfl, q _ _ hfr h2⟩
theorem se_sortLF {X : Cx} {W : WX} {f : Addr} {e : Expr} {ma : Env → Out R} {kf : Str} {p p3 kpos pos : Pos} (L : LfOk X.K X.mg f) (hdep : X.A.depth < recursionLimit) (hu : X.A.units + 65 < cLine) (hg : Gl X "sorted") (hm : X.mg "sorted" = none)
    (hgf : Gl X kf) (hmf : X.mg kf = some (.ref f)) (hdf : (kf == ("__debug__" : Str)) = false) (ha : PE X e (tE X.K W ma)) (hs : noStarE e = true) :
    PE X (.Call (.Name "sorted" p) [e] [⟨some "key", .Name kf p3, kpos⟩] pos) (tE X.K W fun env => (ma env).bind fun r e1 => ofO ((lookT e1 r).bind fun t => (seqL t).bind fun xs => (rowsI xs).bind fun bs => if bs.length ≤ sizeLine then some (R.new (.lst ((sortLF bs).map rowT))) else none) e1) := by
  have hns : noStar [e] = true := by simp [noStar, hs]
  refine pe_imp (pe_callBK (cr_sortLF L hdep hu) hg hm (by decide +kernel) (pa_cons ha pa_nil (star_cons hs)) (pk_cons (pe_glob (v := .ref f) hgf hmf rfl hdf) pk_nil) (by decide) (by decide) (by rw [star_cons hs]; rfl) (star_any hns) rfl rfl rfl) fun σ H Q ⟨env, F, fp, E, q⟩ => ?_
  refine tE_intro E Stp.refl q fun r e1 H1 F1 fp1 v l E1 s1 rr tm q1 => ?_
  obtain ⟨rs, er, q2⟩ := ofO_asks q1
  simp only [Option.bind_eq_some_iff] at er
  obtain ⟨t, et, xs, ex, bs, eb, er⟩ := er
  split at er
  · rename_i hz
    cases er
    obtain ⟨a, vs, rfl, hsq, da⟩ := (rr.vr E1 et).seqL E1.sub ex
    refine ⟨F1, a, vs, bs, E1.sub, rfl, rfl, hsq, rowsI_den eb da, hz, fun p vs' hp d' => ?_⟩
    refine q2 _ _ fp1 (E1.alloc hp) (s1.alloc hp) (.ref p) [p] (.new (.lst upd_same d')) fun b hb => ?_
    simp at hb
    subst hb
    exact ⟨E1.freeF hp, E1.notAll hp, s1.back hp⟩
  · cases er
end G
namespace G
open PySem PySem.Spec PyProof.Rows L2

/-! # the meaning of statements -/
inductive Sg where
  | nxt | brk | cnt
  | ret (iv : Iv)
def mapE {α : Type} (f : Env → Env) : Out α → Out α
  | .ok a e => .ok a (f e)
  | .exc x e => .exc x (f e)
  | .stuck => .stuck
def asgR (fx : Nat → Bool) (i : Nat) (r : R) (env : Env) : Out Sg :=
  if i < env.length ∧ fx i = false then match r with
    | .val t => .ok .nxt (env.set i (some (.val t)))
    | .new o => .ok .nxt (env.set i (some (.own o)))
    | .loan _ => .stuck
  else .stuck
def retR (fx : Nat → Bool) (r : R) (env : Env) : Out Sg :=
  match r with
  | .val t => .ok (.ret (.val t)) env
  | .new o => .ok (.ret (.own o)) env
  | .loan j => match env[j]? with
    | some (some (.val t)) => .ok (.ret (.val t)) env
    | some (some (.own o)) => if fx j then .stuck else .ok (.ret (.own o)) (env.set j none)
    | _ => .stuck
def setixR (c : Nat) (ix v : T) (env : Env) : Out Sg :=
  match env[c]? with
  | some (some (.own (.lst xs))) => match ix with
    | .int k => match ixN xs.length k with
      | some j => .ok .nxt (env.set c (some (.own (.lst (xs.set j v)))))
      | none => .stuck
    | _ => .stuck
  | some (some (.own (.dic kvs))) => match keyT ix with
    | some k => if kvs.length < sizeLine then .ok .nxt (env.set c (some (.own (.dic (putT kvs k v))))) else .stuck
    | none => .stuck
  | _ => .stuck
def mutR (m : Mu) (c : Nat) (ts : List T) (env : Env) : Out Sg :=
  match env[c]? with
  | some (some (.own (.lst xs))) => match m, ts with
    | .append, [t] => if xs.length < sizeLine then .ok .nxt (env.set c (some (.own (.lst (xs ++ [t]))))) else .stuck
    | .insert, [.int i, t] => if xs.length < sizeLine ∧ 0 ≤ i ∧ i < 2 ^ 63 then .ok .nxt (env.set c (some (.own (.lst (xs.take i.toNat ++ [t] ++ xs.drop i.toNat))))) else .stuck
    | .extend, [.lst ys] => if xs.length + ys.length ≤ sizeLine then .ok .nxt (env.set c (some (.own (.lst (xs ++ ys))))) else .stuck
    | .pop, [] => match xs[xs.length - 1]? with
      | some _ => .ok .nxt (env.set c (some (.own (.lst xs.dropLast))))
      | none => .stuck
    | _, _ => .stuck
  | _ => .stuck
def isO (env : Env) (c : Nat) : Bool := match env[c]? with | some (some (.own _)) => true | _ => false
def isL (env : Env) (c : Nat) : Bool := match env[c]? with | some (some (.own (.lst _))) => true | _ => false
def forL (fx : Nat → Bool) (tg : Tgt) (body : Env → Out Sg) : List T → Env → Out Sg
  | [], env => .ok .nxt env
  | t :: ts, env => match bindT fx tg t env with
    | none => .stuck
    | some e => (body e).bind fun g e1 => match g with
      | .nxt => forL fx tg body ts e1
      | .cnt => forL fx tg body ts e1
      | .brk => .ok .nxt e1
      | .ret iv => .ok (.ret iv) e1
def whileL (c : Env → Out Bool) (body : Env → Out Sg) : Nat → Env → Out Sg
  | 0, _ => .stuck
  | n + 1, env => (c env).bind fun k e1 => if k then (body e1).bind fun g e2 => match g with
      | .nxt => whileL c body n e2
      | .cnt => whileL c body n e2
      | .brk => .ok .nxt e2
      | .ret iv => .ok (.ret iv) e2
    else .ok .nxt e1
/-! ## own exceptions -/
def C0 : Nat → List Iv → Res := fun _ _ => .stuck
def GN : Nat → T := fun _ => .non
def DN : Nat → Nat → List T := fun _ _ => []
/-- the text of an exception can be made -/
def msgOk (ie : IE) (ts : List T) : Bool := match ev C0 GN DN ie (none :: ((ts.map fun t => some (Iv.val t)) ++ [none])) with
  | .ok (.val (.str _)) _ => true
  | _ => false
def raiseR (nm : Str) (flds : List Str) (msg : IE) (ts : List T) (env : Env) : Out Sg := if ((lvs ts).isSome && (decide (ts.length = flds.length) && msgOk msg ts)) = true then .exc (.usr nm (flds.zip ts).reverse) env else .stuck
def fsetR (c : Nat) (f : Str) (ns : List Str) (t : T) (env : Env) : Out Sg := match env[c]? with
  | some (some (.own (.obj nm kvs))) => if ns.contains nm = true ∧ kvs.length < 900 then .ok .nxt (env.set c (some (.own (.obj nm (putO (.inr f) t kvs))))) else .stuck
  | _ => .stuck
def slotOk (fx : Nat → Bool) (slot : Option Nat) (env : Env) : Bool := match slot with
  | none => true
  | some i => decide (i < env.length) && !(fx i)
def wipeO (env : Env) : Option Nat → Env
  | none => env
  | some i => env.set i none
section
variable (C : Nat → List Iv → Res) (G : Nat → T) (D : Nat → Nat → List T) (fx : Nat → Bool)
mutual
def su : SU → Env → Out Sg
  | .asg i e, env => (ev C G D e env).bind fun r e1 => asgR fx i r e1
  | .ret e, env => (ev C G D e env).bind fun r e1 => retR fx r e1
  | .retN, env => .ok (.ret (.val .non)) env
  | .pass, env => .ok .nxt env
  | .ite c a b, env => (evT C G D c env).bind fun k e1 => if k then sus a e1 else sus b e1
termination_by structural x => x
def sus : SUs → Env → Out Sg
  | .nil, env => .ok .nxt env
  | .cons s ss, env => (su s env).bind fun g e1 => match g with
    | .nxt => sus ss e1
    | g => .ok g e1
termination_by structural x => x
end
/-- the outcome of a suite, whatever the exception's address is -/
def SuiteIs (nm : Str) (fs : List (Str × T)) (suite : SUs) (slot : Option Nat) (env : Env) (o : Out Sg) : Prop :=
  ∀ a : Addr, noexc (mapE (fun e => wipeO e slot) (sus C (setG G (encE a nm fs)) D fx suite (match slot with | some i => env.set i (some (.val (.adr a))) | none => env))) = o
end
open Classical in
noncomputable def suiteR (C : Nat → List Iv → Res) (G : Nat → T) (D : Nat → Nat → List T) (fx : Nat → Bool) (nm : Str) (fs : List (Str × T)) (suite : SUs) (slot : Option Nat) (env : Env) : Out Sg :=
  if h : ∃ o, SuiteIs C G D fx nm fs suite slot env o then Classical.choose h else .stuck
theorem suiteR_ok {C : Nat → List Iv → Res} {G : Nat → T} {D : Nat → Nat → List T} {fx : Nat → Bool} {nm : Str} {fs : List (Str × T)} {suite : SUs} {slot : Option Nat} {env : Env} {o : Out Sg} (h : SuiteIs C G D fx nm fs suite slot env o) : suiteR C G D fx nm fs suite slot env = o := by
  have hx : ∃ o, SuiteIs C G D fx nm fs suite slot env o := ⟨o, h⟩
  unfold suiteR
  rw [dif_pos hx]
  exact (Classical.choose_spec hx 0).symm.trans (h 0)
theorem suiteR_is {C : Nat → List Iv → Res} {G : Nat → T} {D : Nat → Nat → List T} {fx : Nat → Bool} {nm : Str} {fs : List (Str × T)} {suite : SUs} {slot : Option Nat} {env : Env} (h : suiteR C G D fx nm fs suite slot env ≠ .stuck) : SuiteIs C G D fx nm fs suite slot env (suiteR C G D fx nm fs suite slot env) := by
  unfold suiteR at h ⊢
  by_cases hx : ∃ o, SuiteIs C G D fx nm fs suite slot env o
  · rw [dif_pos hx]; exact Classical.choose_spec hx
  · rw [dif_neg hx] at h; exact absurd rfl h
section
variable (C : Nat → List Iv → Res) (G : Nat → T) (D : Nat → Nat → List T) (fx : Nat → Bool) (L : Nat)
mutual
noncomputable def xc : IS → Env → Out Sg
  | .asg i e, env => (ev C G D e env).bind fun r e1 => asgR fx i r e1
  | .asgT is e, env => (ev C G D e env).bind fun r e1 => match (esc e1 r).bind fun t => bindT fx (.tup is) t e1 with
    | some e2 => .ok .nxt e2
    | none => .stuck
  | .par i j a b, env => (ev C G D a env).bind fun r e1 => (ev C G D b e1).bind fun r2 e2 => match (escs e2 [r, r2]).bind fun ts => bindAll fx [i, j] ts e2 with
    | some e3 => .ok .nxt e3
    | none => .stuck
  | .setix c ix v, env => (ev C G D v env).bind fun rv e1 => if isO e1 c then (ev C G D ix e1).bind fun ri e2 => match esc e2 rv, lookT e2 ri with
      | some tv, some ti => setixR c ti tv e2
      | _, _ => .stuck
    else .stuck
  | .mut m c es, env => if isL env c then (evs C G D es env).bind fun rs e1 => match m with
      | .extend => match looks e1 rs with | some ts => mutR m c ts e1 | none => .stuck
      | _ => match escs e1 rs with | some ts => mutR m c ts e1 | none => .stuck
    else .stuck
  | .expr e, env => (ev C G D e env).bind fun _ e1 => .ok .nxt e1
  | .ret e, env => (ev C G D e env).bind fun r e1 => retR fx r e1
  | .retN, env => .ok (.ret (.val .non)) env
  | .pass, env => .ok .nxt env
  | .brk, env => .ok .brk env
  | .cont, env => .ok .cnt env
  | .ite c a b, env => (evT C G D c env).bind fun k e1 => if k then xcs a e1 else xcs b e1
  | .for tg src body, env => (evSrc C G D src env).bind fun it e1 => mapE (fun e => unlockE e it.2) (forL fx tg (xcs body) it.1 (lockE e1 it.2))
  | .while c body, env => whileL (evT C G D c) (xcs body) L env
  | .raise n _, env => .exc (.blt n) env
  | .try body n suite, env => match xcs body env with
    | .exc (.blt m) e => if m = n then noexc (xcs suite e) else .stuck
    | .exc (.usr _ _) _ => .stuck
    | o => o
  | .raiseX nm flds msg args, env => (evs C G D args env).bind fun rs e1 => match valsR rs with | some ts => raiseR nm flds msg ts e1 | none => .stuck
  | .tryX body yes no slot suite, env => match xcs body env with
    | .exc (.usr nm fs) e => if (yes.any fun y => decide (y = nm)) = true then (if slotOk fx slot e = true then suiteR C G D fx nm fs suite slot e else .stuck) else if (no.any fun y => decide (y = nm)) = true then .exc (.usr nm fs) e else .stuck
    | .exc (.blt _) _ => .stuck
    | o => o
  | .fset c f ns e, env => (ev C G D e env).bind fun r e1 => match esc e1 r with | some t => fsetR c f ns t e1 | none => .stuck
  | .su _, _ => .stuck
termination_by structural x => x
noncomputable def xcs : ISs → Env → Out Sg
  | .nil, env => .ok .nxt env
  | .cons s ss, env => (xc s env).bind fun g e1 => match g with
    | .nxt => xcs ss e1
    | g => .ok g e1
termination_by structural x => x
end
end

/-! # readings of statements -/
structure Fix (fx : Nat → Bool) (σ σ' : L2.St) : Prop where
  at_ : ∀ i, fx i = true → σ'[i]? = σ[i]?
theorem Fix.refl {fx : Nat → Bool} {σ : L2.St} : Fix fx σ σ := ⟨fun _ _ => rfl⟩
theorem Fix.trans {fx : Nat → Bool} {σ σ1 σ2 : L2.St} (a : Fix fx σ σ1) (b : Fix fx σ1 σ2) : Fix fx σ σ2 := ⟨fun i h => (b.at_ i h).trans (a.at_ i h)⟩
def Out.askS (K : PySem.W.Frag) (W : WX) (fx : Nat → Bool) (σ0 : L2.St) (H F : Hp) (P : Fp) (o : Out Sg) (Q : Sg → Env → L2.St → Hp → Hp → (Nat → List Addr) → Prop) : Prop :=
  match o with
  | .ok g env' => ∀ σ' H' F' fp', EnvR K env' σ' H' F' fp' → Stp P H F (fpOf env' fp') H' F' → Fix fx σ0 σ' → Q g env' σ' H' F' fp'
  | .exc x env' => ∀ cls d σ' H' F' fp', EnvR K env' σ' H' F' fp' → Stp P H F (fpOf env' fp') H' F' → Fix fx σ0 σ' → XR K x cls d H' → W cls d σ' H'
  | .stuck => False
def EndQ (K : PySem.W.Frag) (H0 : Hp) (P0 : Fp) (D : Ends) : Sg → Env → L2.St → Hp → Hp → (Nat → List Addr) → Prop := fun g env' σ' H' F' fp' => match g with
  | .nxt => D.nx σ' H'
  | .brk => D.bk σ' H'
  | .cnt => D.ct σ' H'
  | .ret iv => ∀ v l, IvR K H' F' v iv l → Tmp H0 P0 F' (fpOf env' fp') l → D.rt v H'
def tS (K : PySem.W.Frag) (W : WX) (fx : Nat → Bool) (m : Env → Out Sg) : TS := fun D σ H => ∃ env F fp, EnvR K env σ H F fp ∧ (m env).askS K W fx σ H F (fpOf env fp) (EndQ K H (fpOf env fp) D)

theorem ps_imp {X : Cx} {e : Stmt} {t t' : TS} (h : PS X e t) (k : ∀ D σ H, t' D σ H → t D σ H) : PS X e t' := ⟨fun pins s σ H D I q => h.run pins s σ H D I (k D σ H q)⟩
theorem pss_imp {X : Cx} {e : List Stmt} {t t' : TS} (h : PSs X e t) (k : ∀ D σ H, t' D σ H → t D σ H) : PSs X e t' := ⟨fun pins s σ H D I q => h.run pins s σ H D I (k D σ H q)⟩
section
variable {K : PySem.W.Frag} {W : WX} {fx : Nat → Bool} {σ σ0 σ1 : L2.St} {env : Env} {H F H0 F0 : Hp} {P0 P : Fp} {fp : Nat → List Addr} {D : Ends}
/-- from a later world -/
theorem askS_mono {o : Out Sg} (s : Stp P0 H0 F0 P H F) (f : Fix fx σ0 σ) (h : o.askS K W fx σ0 H0 F0 P0 (EndQ K H0 P0 D)) : o.askS K W fx σ H F P (EndQ K H P D) := by
  cases o with
  | stuck => exact h
  | exc x e => exact fun cls d σ' H' F' fp' E t g => h cls d σ' H' F' fp' E (s.trans t) (f.trans g)
  | ok g e =>
    intro σ' H' F' fp' E t gx
    have := h σ' H' F' fp' E (s.trans t) (f.trans gx)
    cases g with
    | ret iv => exact fun v l i tm => this v l i (tm.base s)
    | _ => exact this
/-- a piece of an expression, then a statement's end -/
theorem tE_st {m : Env → Out R} {f : R → Env → Out Sg} {Q0 : Sg → Env → L2.St → Hp → Hp → (Nat → List Addr) → Prop} {Q : VK} (E : EnvR K env σ H F fp) (s : Stp P0 H0 F0 (fpOf env fp) H F) (f0 : Fix fx σ0 σ) (h : ((m env).bind f).askS K W fx σ0 H0 F0 P0 Q0)
    (k : ∀ r env2 H2 F2 fp2 v l, EnvR K env2 σ H2 F2 fp2 → Stp (fpOf env fp) H F (fpOf env2 fp2) H2 F2 → RR K σ H2 F2 r v l → Tmp H (fpOf env fp) F2 (fpOf env2 fp2) l → (f r env2).askS K W fx σ0 H0 F0 P0 Q0 → Q v H2) : tE K W m σ H Q := by
  refine ⟨env, F, fp, E, ?_⟩
  cases e : m env with
  | stuck => rw [e] at h; exact h
  | exc x env' => rw [e] at h; exact fun cls d H' F' fp' E' t x => h cls d σ H' F' fp' E' (s.trans t) f0 x
  | ok r env2 => rw [e] at h; exact fun H' F' fp' E' t v l rr tm => k r env2 H' F' fp' v l E' t rr tm h
theorem tB_st {m : Env → Out Bool} {f : Bool → Env → Out Sg} {Q0 : Sg → Env → L2.St → Hp → Hp → (Nat → List Addr) → Prop} {Q : Bool → Hp → Prop} (E : EnvR K env σ H F fp) (s : Stp P0 H0 F0 (fpOf env fp) H F) (f0 : Fix fx σ0 σ) (h : ((m env).bind f).askS K W fx σ0 H0 F0 P0 Q0)
    (k : ∀ r env2 H2 F2 fp2, EnvR K env2 σ H2 F2 fp2 → Stp (fpOf env fp) H F (fpOf env2 fp2) H2 F2 → (f r env2).askS K W fx σ0 H0 F0 P0 Q0 → Q r H2) : G.tB K W m σ H Q := by
  refine ⟨env, F, fp, E, ?_⟩
  cases e : m env with
  | stuck => rw [e] at h; exact h
  | exc x env' => rw [e] at h; exact fun cls d H' F' fp' E' t x => h cls d σ H' F' fp' E' (s.trans t) f0 x
  | ok r env2 => rw [e] at h; exact fun H' F' fp' E' t => k r env2 H' F' fp' E' t h
theorem tA_st {m : Env → Out (List R)} {f : List R → Env → Out Sg} {Q0 : Sg → Env → L2.St → Hp → Hp → (Nat → List Addr) → Prop} {Q : List V → Hp → Prop} (E : EnvR K env σ H F fp) (s : Stp P0 H0 F0 (fpOf env fp) H F) (f0 : Fix fx σ0 σ) (h : ((m env).bind f).askS K W fx σ0 H0 F0 P0 Q0)
    (k : ∀ r env2 H2 F2 fp2 v l, EnvR K env2 σ H2 F2 fp2 → Stp (fpOf env fp) H F (fpOf env2 fp2) H2 F2 → RRs K σ H2 F2 r v l → Tmp H (fpOf env fp) F2 (fpOf env2 fp2) l → (f r env2).askS K W fx σ0 H0 F0 P0 Q0 → Q v H2) : tA K W m σ H Q := by
  refine ⟨env, F, fp, E, ?_⟩
  cases e : m env with
  | stuck => rw [e] at h; exact h
  | exc x env' => rw [e] at h; exact fun cls d H' F' fp' E' t x => h cls d σ H' F' fp' E' (s.trans t) f0 x
  | ok r env2 => rw [e] at h; exact fun H' F' fp' E' t v l rr tm => k r env2 H' F' fp' v l E' t rr tm h
/-- a slot is given an object of its own -/
theorem EnvR.setOwn (E : EnvR K env σ H F fp) (s : Stp P0 H0 F0 (fpOf env fp) H F) {i : Nat} {o : Ow} {v : V} {l : List Addr} (hi : i < env.length) (h : OwnR K H F v o l) (tm : Tmp H0 P0 F (fpOf env fp) l) :
    EnvR K (env.set i (some (.own o))) (σ.set i (some v)) H F (fun j => if j = i then l else fp j) ∧ Stp P0 H0 F0 (fpOf (env.set i (some (.own o))) fun j => if j = i then l else fp j) H F := by
  refine ⟨E.setIv hi (.own h) fun a ha => ⟨(tm a ha).1, fun j _ hj => (tm a ha).2.1 ⟨j, hj⟩⟩, s.keep, s.fz, s.nfz, fun a ⟨j, o', ej, hj⟩ => ?_, fun a ⟨j, hj⟩ => ?_, fun j a ⟨o', ej, hj⟩ => ?_⟩
  · have hj : a ∈ (if j = i then l else fp j) := hj
    split at hj
    · exact (tm a hj).2.2
    · rename_i hji
      rcases get_set ej with ⟨h1, _⟩ | ⟨_, h4⟩
      · exact absurd h1.symm hji
      · exact s.own a ⟨j, o', h4, hj⟩
  · have hj : a ∈ (if j = i then l else fp j) := hj
    split at hj
    · exact (tm a hj).2.2.imp (P0.sub a) id
    · exact s.all a ⟨j, hj⟩
  · have hj : a ∈ (if j = i then l else fp j) := hj
    rcases get_set ej with ⟨_, h3, _⟩ | ⟨h3, h4⟩
    · cases h3
    · rw [if_neg (Ne.symm h3)] at hj
      exact s.lk j a ⟨o', h4, hj⟩
/-- the object of a slot is written -/
theorem EnvR.write (E : EnvR K env σ H F fp) {i : Nat} {o o' : Ow} {a : Addr} {ob : HO} (ei : env[i]? = some (some (.own o))) (es : σ[i]? = some (some (.ref a))) (hn : OwnR K (upd H a ob) F (.ref a) o' [a]) :
    EnvR K (env.set i (some (.own o'))) σ (upd H a ob) F fp ∧ Stp (fpOf env fp) H F (fpOf (env.set i (some (.own o'))) fp) (upd H a ob) F := by
  obtain ⟨v, e1, r⟩ := E.slot i _ ei
  rw [es] at e1
  cases e1
  obtain ⟨b, eb, hl⟩ := r.ref fun t => by simp
  cases eb
  have hi : i < env.length := (List.getElem?_eq_some_iff.mp ei).1
  have hown : (fpOf env fp).own a := ⟨i, o, ei, by rw [hl]; exact List.mem_cons_self⟩
  have hFa : F a = none := E.free i a (by rw [hl]; exact List.mem_cons_self)
  refine ⟨⟨fun j iv ej => ?_, fun j hj => ?_, E.dis, E.free, fun b x e => ?_, by simpa using E.len⟩, fun b x e hb => ?_, fun _ _ h => h, fun _ h => .inl h, fun b ⟨j, o2, ej, hj⟩ => ?_, fun b h => .inl h, fun j b ⟨o2, ej, hj⟩ => ?_⟩
  · rcases get_set ej with ⟨rfl, h3, _⟩ | ⟨h3, h4⟩
    · cases h3
      refine ⟨_, es, ?_⟩
      rw [hl]
      exact .own hn
    · obtain ⟨v, g1, g2⟩ := E.slot j iv h4
      refine ⟨v, g1, g2.keep (fun b hb => upd_ne fun z => h3 ?_) fun _ _ h => h⟩
      subst z
      exact E.dis i j b (by rw [hl]; exact List.mem_cons_self) hb
  · by_cases hji : j = i
    · subst hji
      exact absurd (by rw [List.getElem?_set_self hi]) (hj (.own o'))
    · exact E.out j (get_set_none hj (Ne.symm hji))
  · rw [upd_ne (ne_of_none e hFa)]
    exact E.sub b x e
  · rw [upd_ne fun z => hb (by rw [z]; exact hown)]
    exact e
  · rcases get_set ej with ⟨rfl, h3, _⟩ | ⟨h3, h4⟩
    · exact .inl ⟨_, o, ei, hj⟩
    · exact .inl ⟨j, o2, h4, hj⟩
  · rcases get_set ej with ⟨_, h3, _⟩ | ⟨h3, h4⟩
    · cases h3
    · exact ⟨o2, h4, hj⟩
end
end G
namespace G
open PySem PySem.Spec PyProof.Rows L2

section
variable {X : Cx} {W : WX} {fx : Nat → Bool} {a b c e : Expr} {es : List Expr} {ma mb mc : Env → Out R} {ms : Env → Out (List R)} {mt : Env → Out Bool} {m1 m2 : Env → Out Sg} {pos p apos : Pos} {x y : Str} {st : Stmt} {rest : List Stmt} {i j : Nat}

theorem ss_nil : PSs X [] (tS X.K W fx fun env => .ok .nxt env) := pss_imp pss_nil fun D σ H ⟨env, F, fp, E, q⟩ => q σ H F fp E Stp.refl Fix.refl
theorem ss_cons (h1 : PS X st (tS X.K W fx m1)) (h2 : PSs X rest (tS X.K W fx m2)) : PSs X (st :: rest) (tS X.K W fx fun env => (m1 env).bind fun g e1 => match g with
    | .nxt => m2 e1
    | g => .ok g e1) := by
  refine pss_imp (pss_cons h1 h2) fun D σ H ⟨env, F, fp, E, q⟩ => ⟨env, F, fp, E, ?_⟩
  cases em : m1 env with
  | stuck => simp only [em, Out.bind] at q; exact q
  | exc z e1 => simp only [em, Out.bind] at q; exact q
  | ok g e1 =>
    simp only [em, Out.bind] at q
    cases g with
    | nxt =>
      intro σ' H' F' fp' E' s' f'
      exact ⟨e1, F', fp', E', askS_mono (o := m2 e1) s' f' q⟩
    | brk => exact q
    | cnt => exact q
    | ret iv => exact q
theorem ss_pass : PS X (.Pass pos) (tS X.K W fx fun env => .ok .nxt env) := ps_imp ps_pass fun D σ H ⟨env, F, fp, E, q⟩ => q σ H F fp E Stp.refl Fix.refl
theorem ss_brk : PS X (.Break pos) (tS X.K W fx fun env => .ok .brk env) := ps_imp ps_break fun D σ H ⟨env, F, fp, E, q⟩ => q σ H F fp E Stp.refl Fix.refl
theorem ss_cont : PS X (.Continue pos) (tS X.K W fx fun env => .ok .cnt env) := ps_imp ps_continue fun D σ H ⟨env, F, fp, E, q⟩ => q σ H F fp E Stp.refl Fix.refl
theorem ss_retN : PS X (.Return none pos) (tS X.K W fx fun env => .ok (.ret (.val .non)) env) := ps_imp ps_retN fun D σ H ⟨env, F, fp, E, q⟩ => q σ H F fp E Stp.refl Fix.refl .non [] (.val .non) .nil
theorem ss_doc {z : Str} {k : Nat} : PS X (.Expr (.Constant (.str z) k p) pos) (tS X.K W fx fun env => .ok .nxt env) := ps_imp ps_doc fun D σ H ⟨env, F, fp, E, q⟩ => q σ H F fp E Stp.refl Fix.refl
theorem ss_expr (ha : PE X e (tE X.K W ma)) (hs : swapsWith e none pos.line X.env = pure false) : PS X (.Expr e pos) (tS X.K W fx fun env => (ma env).bind fun _ e1 => .ok .nxt e1) := by
  refine ps_imp (ps_expr ha hs) fun D σ H ⟨env, F, fp, E, q⟩ => ?_
  exact tE_st E Stp.refl Fix.refl q fun r e1 H1 F1 fp1 v l E1 s1 rr tm q1 => q1 σ H1 F1 fp1 E1 s1 Fix.refl
theorem asg_end {K : PySem.W.Frag} {σ : L2.St} {env env1 : Env} {H F H1 F1 : Hp} {fp fp1 : Nat → List Addr} {D : Ends} {r : R} {v : V} {l : List Addr} (E1 : EnvR K env1 σ H1 F1 fp1) (s1 : Stp (fpOf env fp) H F (fpOf env1 fp1) H1 F1)
    (rr : RR K σ H1 F1 r v l) (tm : Tmp H (fpOf env fp) F1 (fpOf env1 fp1) l) (q : (asgR fx i r env1).askS K W fx σ H F (fpOf env fp) (EndQ K H (fpOf env fp) D)) : D.nx (σ.set i (some v)) H1 := by
  unfold asgR at q
  split at q
  · rename_i hi
    have fix : Fix fx σ (σ.set i (some v)) := ⟨fun k hk => by
      rw [List.getElem?_set_ne]
      intro z; rw [z, hk] at hi; cases hi.2⟩
    cases rr with
    | val d =>
      obtain ⟨E2, s2⟩ := E1.setVal hi.1 d
      exact q _ H1 F1 _ E2 (s1.trans s2) fix
    | new d =>
      obtain ⟨E2, s2⟩ := E1.setOwn s1 hi.1 d tm
      exact q _ H1 F1 _ E2 s2 fix
    | loan d => exact q.elim
  · exact q.elim
theorem ss_asg (hN : X.N.Nodup) (hi : X.N[i]? = some x) (hx : Loc X.env.scope x) (hf : X.fn x = true ∨ X.env.scope.names.lookup x = some .local) (ha : PE X e (tE X.K W ma)) (hs : swapsWith e (some (.Name x p)) pos.line X.env = pure false) :
    PS X (.Assign [.Name x p] e pos) (tS X.K W fx fun env => (ma env).bind fun r e1 => asgR fx i r e1) := by
  refine ps_imp (ps_set hN hi hx ha hs hf) fun D σ H ⟨env, F, fp, E, q⟩ => ?_
  exact tE_st E Stp.refl Fix.refl q fun r e1 H1 F1 fp1 v l E1 s1 rr tm q1 => asg_end E1 s1 rr tm q1
/-- the store of a comprehension's list -/
theorem ss_asgLc {te : TE} (h : PS X st (tAsg te (gName i))) (k : ∀ σ H Q, tE X.K W ma σ H Q → te σ H Q) : PS X st (tS X.K W fx fun env => (ma env).bind fun r e1 => asgR fx i r e1) := by
  refine ps_imp h fun D σ H ⟨env, F, fp, E, q⟩ => k _ _ _ ?_
  exact tE_st E Stp.refl Fix.refl q fun r e1 H1 F1 fp1 v l E1 s1 rr tm q1 => asg_end E1 s1 rr tm q1
theorem SetOnly.fix_ {is : List Nat} {σ σ' : L2.St} (h : SetOnly is fx σ σ') : Fix fx σ σ' := ⟨h.fix⟩
theorem ss_asgT {is : List Nat} {tg : Expr} (hg : PG X tg (gTgt X.K (.tup is))) (ha : PE X e (tE X.K W ma)) (hs : swapsWithSole [tg] e pos.line X.env = pure false) (hw : swappedStores [tg] e X.env = pure none) (h1 : (assignEach [tg] X.env).map (·.2) = [assign tg X.env]) :
    PS X (.Assign [tg] e pos) (tS X.K W fx fun env => (ma env).bind fun r e1 => match (esc e1 r).bind fun t => bindT fx (.tup is) t e1 with
    | some e2 => .ok .nxt e2
    | none => .stuck) := by
  refine ps_imp (ps_asg ha hg hs hw h1) fun D σ H ⟨env, F, fp, E, q⟩ => ?_
  refine tE_st E Stp.refl Fix.refl q fun r e1 H1 F1 fp1 v l E1 s1 rr tm q1 => ?_
  split at q1
  · rename_i e2 hb
    obtain ⟨t, ht, hb⟩ := Option.bind_eq_some_iff.mp hb
    obtain ⟨F2, sF, d2, E2, s2, _⟩ := esc_ok rr E1 tm s1 ht
    refine tgt_ok E2 d2 hb fun σ' fp' E3 s3 so => ?_
    exact q1 σ' H1 F2 fp' E3 (s2.trans s3) so.fix_
  · exact q1.elim
theorem ss_par {pt : Pos} {kt k2 : Nat} {pt2 px py : Pos} (hc : X.calm = true) (hN : X.N.Nodup) (hi : X.N[i]? = some x) (hj : X.N[j]? = some y) (hij : i ≠ j) (hx : X.env.scope.names.lookup x = some .local) (hy : X.env.scope.names.lookup y = some .local)
    (ha : PE X a (tE X.K W ma)) (hb : PE X b (tE X.K W mb)) (hsa : noStarE a = true) (hsb : noStarE b = true)
    (hw : swappedStores [.Tuple [.Name x px, .Name y py] kt pt] (.Tuple [a, b] k2 pt2) X.env = pure (some [x, y])) :
    PS X (.Assign [.Tuple [.Name x px, .Name y py] kt pt] (.Tuple [a, b] k2 pt2) pos) (tS X.K W fx fun env => (ma env).bind fun r e1 => (mb e1).bind fun r2 e2 => match (escs e2 [r, r2]).bind fun ts => bindAll fx [i, j] ts e2 with
    | some e3 => .ok .nxt e3
    | none => .stuck) := by
  have hl : PA X [a, b] (tA X.K W fun env => (ma env).bind fun r e1 => ((mb e1).bind fun r2 e2 => (Out.ok [] e2).bind fun rs e3 => .ok (r2 :: rs) e3).bind fun rs e2 => .ok (r :: rs) e2) := sa_cons ha (sa_cons hb sa_nil (star_ne hsb)) (star_ne hsa)
  refine ps_imp (ps_par hc hN hi hj hij hx hy hl hw) fun D σ H ⟨env, F, fp, E, q⟩ => ?_
  have eq : ((ma env).bind fun r e1 => (mb e1).bind fun r2 e2 => match (escs e2 [r, r2]).bind fun ts => bindAll fx [i, j] ts e2 with
    | some e3 => Out.ok Sg.nxt e3
    | none => .stuck) = (((ma env).bind fun r e1 => ((mb e1).bind fun r2 e2 => (Out.ok [] e2).bind fun rs e3 => .ok (r2 :: rs) e3).bind fun rs e2 => .ok (r :: rs) e2).bind fun rs e2 => match (escs e2 rs).bind fun ts => bindAll fx [i, j] ts e2 with
    | some e3 => .ok .nxt e3
    | none => .stuck) := by
    cases ma env with
    | stuck => rfl
    | exc _ _ => rfl
    | ok r e1 =>
      simp only [Out.bind]
      cases mb e1 <;> rfl
  simp only at q
  rw [eq] at q
  refine tA_st E Stp.refl Fix.refl q fun rs e1 H1 F1 fp1 vs l E1 s1 rr tm q1 => ?_
  split at q1
  · rename_i e2 hb
    obtain ⟨ts, ht, hb⟩ := Option.bind_eq_some_iff.mp hb
    obtain ⟨F2, sF, d2, E2, s2⟩ := escs_ok rr E1 tm s1 ht
    obtain ⟨v, vs1, rfl, v2, vs2, rfl, rfl, h⟩ := bindAll_ok (Q := fun σ' H' => D.nx σ' H') E2 d2 hb fun σ' fp' E3 s3 so => q1 σ' H1 F2 fp' E3 (s2.trans s3) so.fix_
    exact ⟨v, v2, rfl, h⟩
  · exact q1.elim
theorem ss_ret (ha : PE X e (tE X.K W ma)) : PS X (.Return (some e) pos) (tS X.K W fx fun env => (ma env).bind fun r e1 => retR fx r e1) := by
  refine ps_imp (ps_ret ha) fun D σ H ⟨env, F, fp, E, q⟩ => ?_
  refine tE_st E Stp.refl Fix.refl q fun r e1 H1 F1 fp1 v l E1 s1 rr tm q1 => ?_
  unfold retR at q1
  cases rr with
  | val d => exact q1 σ H1 F1 fp1 E1 s1 Fix.refl v [] (.val d) .nil
  | new d => exact q1 σ H1 F1 fp1 E1 s1 Fix.refl v l (.own d) tm
  | @loan _ k es =>
    simp only at q1
    split at q1
    · rename_i t et
      obtain ⟨v', g1, g2⟩ := E1.slot k _ et
      rw [es] at g1
      cases g1
      cases hl : fp1 k with
      | nil => rw [hl] at g2; exact q1 σ H1 F1 fp1 E1 s1 Fix.refl v [] g2 .nil
      | cons z zs =>
        obtain ⟨_, _, w⟩ := g2.one (a := z) (by rw [hl]; exact List.mem_cons_self)
        exact absurd rfl (w _)
    · rename_i o eo
      split at q1
      · exact q1.elim
      · obtain ⟨v', g1, g2⟩ := E1.slot k _ eo
        rw [es] at g1
        cases g1
        obtain ⟨E2, s2⟩ := E1.wipe [k]
        have E3 : EnvR X.K (wipeE e1 [k]) σ H1 F1 _ := E2.unwipe
        refine q1 σ H1 F1 _ E3 (s1.trans s2) Fix.refl v (fp1 k) g2 fun a ha => ⟨E1.free k a ha, fun ⟨m, hm⟩ => ?_, s1.own a ⟨k, o, eo, ha⟩⟩
        have hm : a ∈ (if m ∈ [k] then [] else fp1 m) := hm
        split at hm
        · simp at hm
        · rename_i hmk
          have := E1.dis k m a ha hm
          subst this
          exact hmk (List.mem_singleton.mpr rfl)
    · exact q1.elim
theorem ss_if {sa sb : List Stmt} (hc : PT X c (G.tB X.K W mt)) (ha : PSs X sa (tS X.K W fx m1)) (hb : PSs X sb (tS X.K W fx m2)) : PS X (.If c sa sb pos) (tS X.K W fx fun env => (mt env).bind fun k e1 => if k then m1 e1 else m2 e1) := by
  refine ps_imp (ps_if hc ha hb) fun D σ H ⟨env, F, fp, E, q⟩ => ?_
  refine tB_st E Stp.refl Fix.refl q fun k e1 H1 F1 fp1 E1 s1 q1 => ?_
  cases k with
  | true => exact iteT ⟨e1, F1, fp1, E1, askS_mono (o := m1 e1) s1 Fix.refl q1⟩
  | false => exact iteF ⟨e1, F1, fp1, E1, askS_mono (o := m2 e1) s1 Fix.refl q1⟩
theorem ss_while {body : List Stmt} {n : Nat} (hp : PassesOwn (model X.prog X.w) X.A X.env X.xe) (hc : PT X c (G.tB X.K W mt)) (hb : PSs X body (tS X.K W fx m1)) : PS X (.While c body [] pos) (tS X.K W fx fun env => whileL mt m1 n env) := by
  refine ps_imp (ps_while hp hc hb) fun D σ0 H0 ⟨env0, F0, fp0, E0, q0⟩ => ?_
  refine ⟨fun n σ H => ∃ env F fp, EnvR X.K env σ H F fp ∧ Stp (fpOf env0 fp0) H0 F0 (fpOf env fp) H F ∧ Fix fx σ0 σ ∧ (whileL mt m1 n env).askS X.K W fx σ0 H0 F0 (fpOf env0 fp0) (EndQ X.K H0 (fpOf env0 fp0) D), ⟨n, env0, F0, fp0, E0, Stp.refl, Fix.refl, q0⟩, ?_⟩
  rintro m σ H ⟨env, F, fp, E, s, f, q⟩
  cases m with
  | zero => exact q.elim
  | succ m =>
    unfold whileL at q
    refine tB_st E s f q fun k e1 H1 F1 fp1 E1 s1 q1 => ?_
    cases k with
    | false => exact iteF (q1 σ H1 F1 fp1 E1 (s.trans s1) f)
    | true =>
      refine iteT ⟨fun σ' H' => ∃ env F fp, EnvR X.K env σ' H' F fp ∧ Stp (fpOf env0 fp0) H0 F0 (fpOf env fp) H' F ∧ Fix fx σ0 σ' ∧ (whileL mt m1 m env).askS X.K W fx σ0 H0 F0 (fpOf env0 fp0) (EndQ X.K H0 (fpOf env0 fp0) D), fun σ' H' h => ⟨m, Nat.lt_succ_self m, h⟩, e1, F1, fp1, E1, ?_⟩
      rw [if_pos rfl] at q1
      cases em : m1 e1 with
      | stuck => simp only [em, Out.bind] at q1; exact q1
      | exc z e2 => simp only [em, Out.bind] at q1; exact fun cls d σ' H' F' fp' E' t g => q1 cls d σ' H' F' fp' E' ((s.trans s1).trans t) (f.trans g)
      | ok g e2 =>
        simp only [em, Out.bind] at q1
        intro σ' H' F' fp' E' t g'
        cases g with
        | nxt => exact ⟨e2, F', fp', E', (s.trans s1).trans t, f.trans g', q1⟩
        | cnt => exact ⟨e2, F', fp', E', (s.trans s1).trans t, f.trans g', q1⟩
        | brk => exact q1 σ' H' F' fp' E' ((s.trans s1).trans t) (f.trans g')
        | ret iv => exact fun v l iv tm => q1 σ' H' F' fp' E' ((s.trans s1).trans t) (f.trans g') v l iv (tm.base (s.trans s1))
end
end G
namespace G
open PySem PySem.Spec PyProof.Rows L2

section
variable {X : Cx} {W : WX} {fx : Nat → Bool} {a b c e : Expr} {es : List Expr} {ma mb mc : Env → Out R} {ms : Env → Out (List R)} {mt : Env → Out Bool} {m1 m2 : Env → Out Sg} {pos p apos : Pos} {x y : Str} {st : Stmt} {rest : List Stmt} {i j : Nat}

theorem iter_plain {iter : Expr} (h : ∀ es k p, iter ≠ .Set es k p) (env : PySem.Env) : ∀ v, foldedSetIterable iter env v = pure v := by
  intro v
  cases iter <;> first | rfl | exact absurd rfl (h _ _ _)
theorem ss_for {tg iter : Expr} {body : List Stmt} {tgt : Tgt} {msrc : Env → Out (List T × Option Nat)} (hp : PassesOwn (model X.prog X.w) X.A X.env X.xe) (hc : X.calm = true) (hi : PI X tg iter (tSrc X.K W msrc)) (hg : PG X tg (gTgt X.K tgt)) (hb : PSs X body (tS X.K W fx m1))
    (hs : ∀ v, foldedSetIterable iter X.env v = pure v) :
    PS X (.For tg iter body [] pos) (tS X.K W fx fun env => (msrc env).bind fun it e1 => mapE (fun e => unlockE e it.2) (forL fx tgt m1 it.1 (lockE e1 it.2))) := by
  refine ps_imp (ps_for hp hc hi hg hb hs) fun D σ0 H0 ⟨env0, F0, fp0, E0, q0⟩ => ?_
  refine ⟨env0, F0, fp0, E0, ?_⟩
  simp only at q0
  cases em : msrc env0 with
  | stuck => simp only [em, Out.bind] at q0; exact q0
  | exc z e1 => simp only [em, Out.bind] at q0; exact fun cls d H' F' fp' E' t g => q0 cls d σ0 H' F' fp' E' t Fix.refl g
  | ok it e1 =>
    simp only [em, Out.bind] at q0
    intro H1 F1 fp1 E1 s1 J Std ok std hlk
    obtain ⟨E2, o2, a2⟩ := E1.lock it.2
    -- behind the loop, or out of it
    have out : ∀ {e : Env} {σ' : L2.St} {H' F' : Hp} {fp' : Nat → List Addr}, EnvR X.K e σ' H' F' fp' → Stp (fpOf (lockE e1 it.2) fp1) H1 F1 (fpOf e fp') H' F' → EnvR X.K (unlockE e it.2) σ' H' F' fp' ∧ Stp (fpOf env0 fp0) H0 F0 (fpOf (unlockE e it.2) fp') H' F' :=
      fun {e σ' H' F' fp'} E' t => ⟨(E'.unlock it.2).1, s1.trans (Stp.locked E1 E' hlk t)⟩
    refine ⟨fun i m σ H => m = it.1.length - i ∧ i ≤ it.1.length ∧ ∃ e F fp, EnvR X.K e σ H F fp ∧ Stp (fpOf (lockE e1 it.2) fp1) H1 F1 (fpOf e fp) H F ∧ Fix fx σ0 σ ∧
      (mapE (fun e => unlockE e it.2) (forL fx tgt m1 (it.1.drop i) e)).askS X.K W fx σ0 H0 F0 (fpOf env0 fp0) (EndQ X.K H0 (fpOf env0 fp0) D), ⟨it.1.length, rfl, Nat.zero_le _, lockE e1 it.2, F1, fp1, E2, Stp.refl, Fix.refl, by rw [List.drop_zero]; exact q0⟩, ?_⟩
    rintro i m σ H ⟨rfl, hile, e, F, fp, E, s, f, q⟩
    have std3 := ok.step _ _ _ _ _ _ std s
    by_cases hlt : i < it.1.length
    · refine .inr ⟨ok.go i _ _ _ std3 E.sub hlt, fun σ' H' => ∃ e F fp, EnvR X.K e σ' H' F fp ∧ Stp (fpOf (lockE e1 it.2) fp1) H1 F1 (fpOf e fp) H' F ∧ Fix fx σ0 σ' ∧
        (mapE (fun e => unlockE e it.2) (forL fx tgt m1 (it.1.drop (i + 1)) e)).askS X.K W fx σ0 H0 F0 (fpOf env0 fp0) (EndQ X.K H0 (fpOf env0 fp0) D), fun σ' H' h => ⟨it.1.length - (i + 1), by omega, rfl, hlt, h⟩, fun v H4 y => ?_⟩
      have ed : it.1.drop i = it.1[i] :: it.1.drop (i + 1) := List.drop_eq_getElem_cons hlt
      rw [ed] at q
      obtain ⟨F4, sF, E4, s4, d4⟩ := (ok.yld i _ _ _ v H4 it.1[i] std3 E.sub y (List.getElem?_eq_getElem hlt)).to E
      unfold forL at q
      cases hb : bindT fx tgt it.1[i] e with
      | none => rw [hb] at q; exact q.elim
      | some e4 =>
        rw [hb] at q
        refine tgt_ok E4 d4 hb fun σ5 fp5 E5 s5 so => ?_
        have s15 := (s.trans s4).trans s5
        have f5 : Fix fx σ0 σ5 := f.trans so.fix_
        refine ⟨e4, F4, fp5, E5, ?_⟩
        simp only at q
        cases eb : m1 e4 with
        | stuck => simp only [eb, Out.bind, mapE] at q; exact q
        | exc z e6 =>
          simp only [eb, Out.bind, mapE] at q
          intro cls d σ' H' F' fp' E' t g
          obtain ⟨E7, s7⟩ := out E' (s15.trans t)
          exact q cls d σ' H' F' fp' E7 s7 (f5.trans g)
        | ok g e6 =>
          simp only [eb, Out.bind] at q
          intro σ' H' F' fp' E' t g'
          cases g with
          | nxt => exact ⟨e6, F', fp', E', s15.trans t, f5.trans g', q⟩
          | cnt => exact ⟨e6, F', fp', E', s15.trans t, f5.trans g', q⟩
          | brk =>
            obtain ⟨E7, s7⟩ := out E' (s15.trans t)
            exact q σ' H' F' fp' E7 s7 (f5.trans g')
          | ret iv =>
            intro v l iv tm
            obtain ⟨E7, s7⟩ := out E' (s15.trans t)
            refine q σ' H' F' fp' E7 s7 (f5.trans g') v l iv fun a ha => ?_
            obtain ⟨t1, t2, t3⟩ := tm a ha
            exact ⟨t1, t2, t3.elim (fun z => (s15.own a z).elim (fun z => s1.own a (o2 a z)) s1.back) (fun z => (Stp.back s15 z).elim (fun z => s1.own a (o2 a z)) s1.back)⟩
    · have ei : i = it.1.length := by omega
      subst ei
      refine .inl ⟨ok.stop _ _ _ _ std3 E.sub (Nat.le_refl _), ?_⟩
      rw [List.drop_length] at q
      obtain ⟨E7, s7⟩ := out E s
      exact q σ H F fp E7 s7 f

/-! # stores into a slot's object -/
theorem lst_own {K : PySem.W.Frag} {σ : L2.St} {env : Env} {H F : Hp} {fp : Nat → List Addr} (E : EnvR K env σ H F fp) {xs : List T} (h : env[i]? = some (some (.own (.lst xs)))) : ∃ a vs, σ[i]? = some (some (.ref a)) ∧ H a = some (.lst vs) ∧ DenAll K F vs xs ∧ fp i = [a] := by
  obtain ⟨v, e1, r⟩ := E.slot i _ h
  generalize fp i = l at r
  cases r with
  | own r => cases r with | lst h1 h2 => exact ⟨_, _, e1, h1, h2, rfl⟩
theorem dic_own {K : PySem.W.Frag} {σ : L2.St} {env : Env} {H F : Hp} {fp : Nat → List Addr} (E : EnvR K env σ H F fp) {xs : List (Key × T)} (h : env[i]? = some (some (.own (.dic xs)))) : ∃ a vs, σ[i]? = some (some (.ref a)) ∧ H a = some (.dK vs) ∧ DenKV K F vs xs ∧ fp i = [a] := by
  obtain ⟨v, e1, r⟩ := E.slot i _ h
  generalize fp i = l at r
  cases r with
  | own r => cases r with | dic h1 h2 => exact ⟨_, _, e1, h1, h2, rfl⟩
theorem VR.int1 {K : PySem.W.Frag} {H F : Hp} {v : V} {k : Int} (h : VR K H F v (.int k)) : v = .int k := by
  cases h with
  | fz d => cases d; rfl
theorem VR.key1 {K : PySem.W.Frag} {H F : Hp} {v : V} {t : T} {k : Key} (h : VR K H F v t) (e : keyT t = some k) : v = kV k := by
  cases h with
  | fz d => exact d.key e
  | _ => simp [keyT] at e
theorem VR.lst1 {K : PySem.W.Frag} {H F : Hp} {v : V} {ys : List T} (h : VR K H F v (.lst ys)) (e : Same F H) : ∃ c zs, v = V.ref c ∧ H c = some (.lst zs) ∧ DenAll K F zs ys := by
  cases h with
  | fz d => cases d with | lst h d => exact ⟨_, _, rfl, e _ _ h, d⟩
  | lst h d => exact ⟨_, _, rfl, h, d⟩
/-- a store, whatever the kind -/
def rSet2 : V → V → V → Hp → (Hp → Prop) → Prop := fun o i v H Q => rSetL o i v H Q ∨ ∃ a H', o = .ref a ∧ DPut H a i v H' ∧ Q H'
theorem set_two (hu : X.A.units + 1 < cLine) : PSet X rSet2 := by
  intro pins s σ H o i v ov iv u Q I ro ri rv h
  rcases h with h | ⟨a, H', rfl, g, q⟩
  · exact set_list pins s σ H o i v ov iv u Q I ro ri rv h
  · cases ro
    exact d_setItem hu I g ri rv fun s' I' => ⟨H', I', q⟩
theorem DenKV.length' {K : PySem.W.Frag} {F : Hp} : ∀ {vs : List (Key × V)} {ts : List (Key × T)}, DenKV K F vs ts → vs.length = ts.length
  | _, _, .nil => rfl
  | _, _, .cons _ d => by rw [List.length_cons, List.length_cons, DenKV.length' d]
theorem ss_setix (hu : X.A.units + 1 < cLine) (ho : X.N[i]? = some x) (hv : Vis X.env.scope x) (hd1 : (x == ("__debug__" : Str)) = false) (hd2 : (x == ("__classdict__" : Str)) = false) (hi : PE X b (tE X.K W mb)) (ha : PE X e (tE X.K W ma)) (hsl : ∀ v, assign (.Subscript (.Name x p) b apos) X.env v = (do
      let ov ← holding [v] (eval (.Name x p) X.env)
      let iv ← holding [v, ov] (eval b X.env)
      standAt apos
      holding [v, ov, iv] (setItem ov iv v)
      release [v, ov, iv] []))
    (hs : swapsWithSole [.Subscript (.Name x p) b apos] e pos.line X.env = pure false) (hw : swappedStores [.Subscript (.Name x p) b apos] e X.env = pure none) :
    PS X (.Assign [.Subscript (.Name x p) b apos] e pos) (tS X.K W fx fun env => (ma env).bind fun rv e1 => if isO e1 i then (mb e1).bind fun ri e2 => match esc e2 rv, lookT e2 ri with
      | some tv, some ti => setixR i ti tv e2
      | _, _ => .stuck
    else .stuck) := by
  refine ps_imp (ps_asg ha (pg_sub (pe_var ho hv hd1 hd2) hi (set_two hu) hsl) hs hw rfl) fun D σ H ⟨env, F, fp, E, q⟩ => ?_
  refine tE_st E Stp.refl Fix.refl q fun rv e1 H1 F1 fp1 v l E1 s1 rr tm q1 => ?_
  split at q1
  · rename_i ho1
    obtain ⟨o, eo⟩ : ∃ o, e1[i]? = some (some (.own o)) := by
      unfold isO at ho1
      split at ho1
      · exact ⟨_, by assumption⟩
      · cases ho1
    obtain ⟨vo, g1, g2⟩ := E1.slot i _ eo
    refine ⟨vo, g1, ?_⟩
    refine tE_st E1 s1 Fix.refl q1 fun ri e2 H2 F2 fp2 w l2 E2 s2 rr2 tm2 q2 => ?_
    split at q2
    · rename_i tv ti h1 h2
      have rr' := rr.step tm s2
      have tm' := tm.step s2 rr.here
      obtain ⟨F3, sF, d3, E3, s3, _⟩ := esc_ok rr' E2 tm' (s1.trans s2) h1
      have hw : VR X.K H2 F2 w ti := rr2.vr E2 h2
      unfold setixR at q2
      split at q2
      · rename_i xs hxs
        split at q2
        · rename_i k
          split at q2
          · rename_i j hj
            obtain ⟨a, vs, f1, f2, f3, f4⟩ := lst_own E3 hxs
            rw [g1] at f1
            cases f1
            have hw' := hw.int1
            subst hw'
            refine .inl ⟨a, vs, k, j, rfl, rfl, f2, by rw [f3.length]; exact hj, ?_⟩
            obtain ⟨E4, s4⟩ := E3.write (o' := .lst (xs.set j tv)) (ob := .lst (vs.set j v)) hxs g1 (.lst upd_same (f3.set j d3))
            exact q2 σ _ F3 fp2 E4 (s3.trans s4) Fix.refl
          · exact q2.elim
        · exact q2.elim
      · rename_i kvs hxs
        split at q2
        · rename_i k hk
          split at q2
          · rename_i hz
            obtain ⟨a, vs, f1, f2, f3, f4⟩ := dic_own E3 hxs
            rw [g1] at f1
            cases f1
            have hw' := hw.key1 hk
            subst hw'
            refine .inr ⟨a, _, rfl, .inl ⟨vs, k, f2, rfl, by rw [f3.length']; exact hz, rfl⟩, ?_⟩
            obtain ⟨E4, s4⟩ := E3.write (o' := .dic (putT kvs k tv)) (ob := .dK (putK vs k v)) hxs g1 (.dic upd_same (f3.put k d3))
            exact q2 σ _ F3 fp2 E4 (s3.trans s4) Fix.refl
          · exact q2.elim
        · exact q2.elim
      · exact q2.elim
    · exact q2.elim
  · exact q1.elim
/-! # methods of a slot's list -/
theorem isL_own {env : Env} (h : isL env i = true) : ∃ xs, env[i]? = some (some (.own (.lst xs))) := by
  unfold isL at h
  split at h
  · exact ⟨_, by assumption⟩
  · cases h
theorem few_of {es : List Expr} {cpos : Pos} {env : PySem.Env} (h : noStar es = true) (hl : es.length < 30) : ((backTo cpos (starEach es env)).all (fun x => !x.1) && (backToKw cpos (keywordEach [] env)).all (fun x => x.1.isSome)
      && decide (es.length + ([] : List Keyword).length + (if ([] : List Keyword).isEmpty then 0 else 1) < 30)) = true := by
  rw [star_all h]
  simp only [Bool.true_and]
  refine Bool.and_eq_true_iff.mpr ⟨rfl, ?_⟩
  simpa using hl
/-- the walk of a changing method -/
theorem ss_mut {id : String} {name : Str} {r : V → List V → Hp → VK → Prop} {f : List R → Env → Out Sg} {pos2 : Pos} (slot : Slot "list" name id) (ty : typeOf (.builtin id) = pure (.type "method_descriptor")) (rule : MtR X id r)
    (ho : X.N[i]? = some x) (hv : Vis X.env.scope x) (hd1 : (x == ("__debug__" : Str)) = false) (hd2 : (x == ("__classdict__" : Str)) = false) (hl : PA X (a :: es) (tA X.K W ms)) (hs : noStar (a :: es) = true) (hn : (a :: es).length < 30) (hq : (apos.endLine == p.line) = true)
    (hr : ∀ {σ σ0 : L2.St} {env : Env} {H F H0 F0 : Hp} {P0 : Fp} {fp : Nat → List Addr} {rs : List R} {vs : List V} {l : List Addr} {u : V} {D : Ends}, EnvR X.K env σ H F fp → Stp P0 H0 F0 (fpOf env fp) H F → Fix fx σ0 σ → RRs X.K σ H F rs vs l → Tmp H0 P0 F (fpOf env fp) l → σ[i]? = some (some u) →
      (f rs env).askS X.K W fx σ0 H0 F0 P0 (EndQ X.K H0 P0 D) → r u vs H fun _ H' => D.nx σ H') :
    PS X (.Expr (.Call (.Attribute (.Name x pos) name apos) (a :: es) [] p) pos2) (tS X.K W fx fun env => if isL env i then (ms env).bind f else .stuck) := by
  have hs' : noStarE a = true ∧ noStar es = true := by simpa [noStar] using hs
  refine ps_imp (ps_expr (pe_bm PySem.F.plainAttrs_list slot ty rule (pe_var ho hv hd1 hd2) hl rfl (few_of hs hn) hq (star_cons hs'.1) (star_any hs'.2)) rfl) fun D σ H ⟨env, F, fp, E, q⟩ => ?_
  simp only at q
  split at q
  · rename_i hL
    obtain ⟨xs, hxs⟩ := isL_own hL
    obtain ⟨b, vs, e1, e2, e3, e4⟩ := lst_own E hxs
    refine ⟨_, e1, .inl ⟨rfl, vs, .inl (.inl e2)⟩, ?_⟩
    exact tA_st E Stp.refl Fix.refl q fun rs e1' H1 F1 fp1 ws l E1 s1 rr tm q1 => hr E1 s1 Fix.refl rr tm e1 q1
  · exact q.elim
theorem ss_append {pos2 : Pos} (ho : X.N[i]? = some x) (hv : Vis X.env.scope x) (hd1 : (x == ("__debug__" : Str)) = false) (hd2 : (x == ("__classdict__" : Str)) = false) (hl : PA X [a] (tA X.K W ms)) (hs : noStar [a] = true) (hq : (apos.endLine == p.line) = true) :
    PS X (.Expr (.Call (.Attribute (.Name x pos) "append" apos) [a] [] p) pos2) (tS X.K W fx fun env => if isL env i then (ms env).bind fun rs e1 => match escs e1 rs with | some ts => mutR .append i ts e1 | none => .stuck else .stuck) := by
  refine ss_mut PySem.F.slot_list_append PySem.F.type_list_append mt_append ho hv hd1 hd2 hl hs (by simp) hq fun {σ σ0 env H F H0 F0 P0 fp rs vs l u D} E s f rr tm eu q => ?_
  split at q
  · rename_i ts ht
    obtain ⟨F2, sF, d2, E2, s2⟩ := escs_ok rr E tm s ht
    unfold mutR at q
    split at q
    · rename_i xs hxs
      split at q
      · rename_i t ht1
        split at q
        · rename_i hz
          obtain ⟨b, ws, e1, e2, e3, e4⟩ := lst_own E2 hxs
          rw [eu] at e1
          cases e1
          cases d2 with
          | cons d dn =>
            cases dn
            refine ⟨b, ws, _, rfl, rfl, e2, by rw [e3.length]; exact hz, ?_⟩
            obtain ⟨E4, s4⟩ := E2.write (o' := .lst (xs ++ [t])) (ob := .lst (ws ++ [_])) hxs eu (.lst upd_same (e3.append (.one d)))
            exact q σ _ F2 fp E4 (s2.trans s4) f
        · exact q.elim
      all_goals first | exact q.elim | (rename_i hm _ ; exact absurd hm (by decide)) | (exfalso; simp_all)
    · exact q.elim
  · exact q.elim
theorem ss_insert {pos2 : Pos} (ho : X.N[i]? = some x) (hv : Vis X.env.scope x) (hd1 : (x == ("__debug__" : Str)) = false) (hd2 : (x == ("__classdict__" : Str)) = false) (hl : PA X [a, b] (tA X.K W ms)) (hs : noStar [a, b] = true) (hq : (apos.endLine == p.line) = true) :
    PS X (.Expr (.Call (.Attribute (.Name x pos) "insert" apos) [a, b] [] p) pos2) (tS X.K W fx fun env => if isL env i then (ms env).bind fun rs e1 => match escs e1 rs with | some ts => mutR .insert i ts e1 | none => .stuck else .stuck) := by
  refine ss_mut PySem.F.slot_list_insert PySem.F.type_list_insert mt_insert ho hv hd1 hd2 hl hs (by simp) hq fun {σ σ0 env H F H0 F0 P0 fp rs vs l u D} E s f rr tm eu q => ?_
  split at q
  · rename_i ts ht
    obtain ⟨F2, sF, d2, E2, s2⟩ := escs_ok rr E tm s ht
    unfold mutR at q
    split at q
    · rename_i xs hxs
      split at q
      · contradiction
      · rename_i n t _
        split at q
        · rename_i hz
          obtain ⟨b, ws, e1, e2, e3, e4⟩ := lst_own E2 hxs
          rw [eu] at e1
          cases e1
          cases d2 with
          | cons d dn =>
            cases d
            cases dn with
            | cons d dn =>
              cases dn
              refine ⟨b, ws, n, _, rfl, rfl, e2, by rw [e3.length]; exact hz.1, hz.2.1, hz.2.2, ?_⟩
              obtain ⟨E4, s4⟩ := E2.write (o' := .lst (xs.take n.toNat ++ [t] ++ xs.drop n.toNat)) (ob := .lst (ws.take n.toNat ++ [_] ++ ws.drop n.toNat)) hxs eu (.lst upd_same (((e3.take _).append (.one d)).append (e3.drop _)))
              exact q σ _ F2 fp E4 (s2.trans s4) f
        · exact q.elim
      · contradiction
      · contradiction
      · exact q.elim
    · exact q.elim
  · exact q.elim
theorem ss_extend {pos2 : Pos} (ho : X.N[i]? = some x) (hv : Vis X.env.scope x) (hd1 : (x == ("__debug__" : Str)) = false) (hd2 : (x == ("__classdict__" : Str)) = false) (hl : PA X [a] (tA X.K W ms)) (hs : noStar [a] = true) (hq : (apos.endLine == p.line) = true) :
    PS X (.Expr (.Call (.Attribute (.Name x pos) "extend" apos) [a] [] p) pos2) (tS X.K W fx fun env => if isL env i then (ms env).bind fun rs e1 => match looks e1 rs with | some ts => mutR .extend i ts e1 | none => .stuck else .stuck) := by
  refine ss_mut PySem.F.slot_list_extend PySem.F.type_list_extend mt_extend ho hv hd1 hd2 hl hs (by simp) hq fun {σ σ0 env H F H0 F0 P0 fp rs vs l u D} E s f rr tm eu q => ?_
  split at q
  · rename_i ts ht
    have vr := rr.vrs E ht
    unfold mutR at q
    split at q
    · rename_i xs hxs
      split at q
      · contradiction
      · contradiction
      · rename_i ys _
        split at q
        · rename_i hz
          obtain ⟨b, ws, e1, e2, e3, e4⟩ := lst_own E hxs
          rw [eu] at e1
          cases e1
          cases vr with
          | cons w wn =>
            cases wn
            obtain ⟨c, zs, rfl, hc, dz⟩ := w.lst1 E.sub
            refine ⟨b, c, ws, zs, rfl, rfl, e2, hc, by rw [e3.length, dz.length]; exact hz, ?_⟩
            obtain ⟨E4, s4⟩ := E.write (o' := .lst (xs ++ ys)) (ob := .lst (ws ++ zs)) hxs eu (.lst upd_same (e3.append dz))
            exact q σ _ F fp E4 (s.trans s4) f
        · exact q.elim
      · contradiction
      · exact q.elim
    · exact q.elim
  · exact q.elim
theorem ss_pop {pos2 : Pos} (ho : X.N[i]? = some x) (hv : Vis X.env.scope x) (hd1 : (x == ("__debug__" : Str)) = false) (hd2 : (x == ("__classdict__" : Str)) = false) (hq : (apos.endLine == p.line) = true) :
    PS X (.Expr (.Call (.Attribute (.Name x pos) "pop" apos) [] [] p) pos2) (tS X.K W fx fun env => if isL env i then mutR .pop i [] env else .stuck) := by
  refine ps_imp (ps_expr (pe_bm0 PySem.F.plainAttrs_list PySem.F.slot_list_pop PySem.F.type_list_pop mt_pop (pe_var ho hv hd1 hd2) rfl hq) rfl) fun D σ H ⟨env, F, fp, E, q⟩ => ?_
  simp only at q
  split at q
  · rename_i hL
    obtain ⟨xs, hxs⟩ := isL_own hL
    obtain ⟨b, vs, e1, e2, e3, e4⟩ := lst_own E hxs
    refine ⟨_, e1, .inl ⟨rfl, vs, .inl (.inl e2)⟩, ?_⟩
    unfold mutR at q
    rw [hxs] at q
    simp only at q
    split at q
    · rename_i t ht
      obtain ⟨u, hu, du⟩ := e3.get ht
      refine ⟨b, vs, u, rfl, rfl, e2, by rw [e3.length]; exact hu, ?_⟩
      obtain ⟨E4, s4⟩ := E.write (o' := .lst xs.dropLast) (ob := .lst vs.dropLast) hxs e1 (.lst upd_same e3.dropLast)
      exact q σ _ F fp E4 s4 Fix.refl
    · exact q.elim
  · exact q.elim
/-- try .. except T: -/
theorem ss_try {np pos' : Pos} {body suite : List Stmt} {b0 : Stmt} {n : String} (hs : X.stack = X.env :: X.outer) (hf : X.env.frame = some X.env.locals) (hc : L2.Names X x (.type n)) (hx : PySem.W.exmOne X.K (.type n) (.type n) = some true) (tk : Takes X W)
    (hb : ∀ (W : WX) (pn : List (Addr × Obj)) (xe : Value → Shared → Prop), Takes (X.tr pn xe) W → PassesOwn (model X.prog X.w) X.A X.env xe → PSs (X.tr pn xe) body (tS X.K W fx m1))
    (hsu : ∀ (a : Addr) (pn : List (Addr × Obj)), PSs (X.suite a pn) (b0 :: suite) (tS X.K W0 fx m2)) :
    PS X (.Try body [.ExceptHandler (some (.Name x np)) none (b0 :: suite) pos'] [] [] pos) (tS X.K W fx fun env => match m1 env with
      | .exc (.blt m) e => if m = n then noexc (m2 e) else .stuck
      | .exc (.usr _ _) _ => .stuck
      | o => o) := by
  refine ps_imp (ps_try_only (ts := fun _ _ _ => tS X.K W0 fx m2) (tb := fun W => tS X.K W fx m1) (Wout := W) hs hf hc tk hb fun a oe cls d pn _ _ => hsu a _) fun D σ H ⟨env, F, fp, E, q⟩ => ⟨env, F, fp, E, ?_⟩
  cases em : m1 env with
  | stuck => simp only [em] at q; exact q
  | ok g e => simp only [em] at q; exact q
  | exc z e =>
    cases z with
    | usr nm fs => simp only [em] at q; exact q.elim
    | blt m =>
      simp only [em] at q
      split at q
      · rename_i hmn
        subst hmn
        rintro cls d σ' H' F' fp' E' s' f' ⟨rfl, rfl⟩
        refine ⟨true, hx, fun _ a ha => ⟨e, F', fp', E', ?_⟩, fun z => by cases z⟩
        cases e2 : m2 e with
        | stuck => rw [e2] at q; exact q.elim
        | exc z2 e3 => rw [e2] at q; exact q.elim
        | ok g e3 => rw [e2] at q; exact askS_mono (W := W0) (o := .ok g e3) s' f' q
      · exact q.elim
end
end G
namespace G
open PySem PySem.Spec PyProof.Rows L2

/-! # super().__init__(..) in the __init__ of an exception class over ValueError -/
/-- a method-wrapper of ValueError.__init__, called -/
theorem wrap_call {prog : Program} {w : World} {A : Around} {E : Value → Shared → Prop} {h : Heap} {g : Array GenState} {d : Drawn} {t : Nat} {os : OsState}
    {nm q : Str} {C N : Addr} {bs bm : List Value} {hdct : Bool} {sn : List Str} {sub : List Value} {ab : Bool} {col : Option Bool} {dd : Option Addr} {k0 k1 k2 k3 k5 : Option Value} {u e t0 : Addr} {rest : List Value} {Q : Value → Shared → Prop}
    (hC : h.get? C = some (excClassObj nm q C N bs bm hdct sn sub ab col dd k0 k1 k2 k3 k5 "ValueError.__new__")) (he : h.get? e = some (PySem.HandSPX.excO C t0)) (hu : h.get? u = some (PySem.W.kxs_mw "ValueError.__init__" e)) (hr : rest.length ≤ sizeLine)
    (hq : ∀ h' t1, (∀ b o, b ≠ e → h.get? b = some o → h'.get? b = some o) → h'.get? e = some (PySem.HandSPX.excO C t1) → Q .none ⟨h', g, d, t, os⟩) :
    wpAny (model prog w) A (call (.ref u) rest) Q E ⟨h, g, d, t, os⟩ := by
  have FB := F.excBase_ValueError
  refine wpAny_call (codeAny_of_tree ?_)
  show wpAny _ A.in1 (callAny (.ref u) ⟨rest, []⟩) _ _ _
  unfold callAny
  refine wpAny_bind (wpAny_load hu ?_)
  refine PySem.W.KFB.if_so (show (Value.type "method-wrapper" == Value.type "method" || Value.type "method-wrapper" == Value.type "builtin_function_or_method" || Value.type "method-wrapper" == Value.type "method-wrapper") = true by decide) ?_
  refine wpAny_bind (PySem.W.check_bound_init FB.toExcCallFacts hC he rfl ?_)
  refine wpAny_bind (wpAny_pure (wpAny_pure ⟨plainId_quiet FB.init.plain _, codeAny_builtin FB.initEntry ?_⟩))
  rw [Around.under_plainId FB.init.plain _]
  wp_walk
  refine hq _ h.objs.size (fun b o hb ho => ?_) ?_
  · exact (Heap.get?_update_other _ _ (Ne.symm hb)).trans (Heap.get?_push_of_some _ ho)
  · exact (Heap.get?_update_self _ (Heap.get?_push_of_some _ he) rfl).trans rfl
/-- what must hold of the class, of its __init__, and of the frame -/
structure SupC (K : PySem.W.Frag) (C : Addr) : Prop where
  oex : OexC K C
  sub : PySem.W.subIn K (.ref C) (.ref C) = some true
  subV : PySem.W.subIn K (.ref C) (.type "ValueError") = some true
  along : PySem.W.ks_superIn K C C "__init__" = some (some (.builtin "ValueError.__init__"))
  op : PySem.W.nsIn K cStatics "thirdparty.any" = some none
structure SupF (X : Cx) (C : Addr) (iC : Nat) : Prop where
  ks : X.env.kindOf "super" = some .globalImplicit
  kc : X.env.kindOf "__class__" = some .free
  mg : X.mg "super" = none
  fn : ∃ (f cc : Addr) (of oc : Obj) (fd : FuncData) (ar : Arg) (vs : Array Value) (file : Str) (tf : Tok), X.env.func = some f ∧ X.K.lookup f = some of ∧ of.data = .func fd ∧ (fd.params.posonlyargs ++ fd.params.args).head? = some ar ∧
    X.env.code = .ref cc ∧ X.K.lookup cc = some oc ∧ oc.data = .fields vs ∧ vs[2]? = some (.str file tf) ∧ ((X.prog.main.file : Str) == file) = true ∧ X.N[0]? = some ar.arg ∧ Vis X.env.scope ar.arg ∧ (ar.arg == ("__classdict__" : Str)) = false
  top : (X.prog.main.scope.names.lookup ("super" : Str)).isSome = false
  nC : X.N[iC]? = some ("__class__" : Str)
theorem load_slot {X : Cx} {pins : List (Addr × Obj)} {s : Shared} {σ : L2.St} {H : Hp} {i : Nat} {x : Str} {v : V} {E : Value → Shared → Prop} {Q : Value → Shared → Prop} (I : Inv X pins σ H s) (hN : X.N[i]? = some x) (hv : Vis X.env.scope x) (hcd : (x == ("__classdict__" : Str)) = false) (e : σ[i]? = some (some v))
    (h : ∀ u, RelV v u → Q u s) : wpAny (model X.prog X.w) X.A (loadName X.env x) Q E s := by
  obtain ⟨m, hn, hl⟩ := I.loc
  obtain ⟨u, r, l⟩ := hl i x v hN e hv
  rcases l with ⟨hk, hm⟩ | ⟨hk, c, hc, hcell⟩
  · exact wpAny_loadName_local I.ok.kind hk hn hm (h u r)
  · rcases hk with hk | hk
    · exact wpAny_loadName_cell I.ok.kind hk hc hcell (h u r)
    · exact wpAny_loadName_free I.ok.kind hk hc hcell (h u r) hcd
theorem load_blt {X : Cx} {pins : List (Addr × Obj)} {s : Shared} {σ : L2.St} {H : Hp} {x : Str} {u : Value} {E : Value → Shared → Prop} {Q : Value → Shared → Prop} (I : Inv X pins σ H s) (hg : X.env.kindOf x = some .globalImplicit) (hm : X.mg x = none) (hv : bootBuiltins x = some u) (hn : x ≠ "__name__") (h : Q u s) :
    wpAny (model X.prog X.w) X.A (loadName X.env x) Q E s := by
  obtain ⟨mb, h1, h2⟩ := I.mod.blt
  have q := Calls.loadGlobal_builtin (M := model X.prog X.w) (A := X.A) (E := E) (env := X.env) (s := s) (Q := Q) (by rw [I.ok.glob]; exact I.mod.glob.keeps I.bk) hm (by rw [I.ok.blt]; exact h1.keeps I.bk) ((h2 x hn).trans hv) h
  unfold loadName
  simp only [Env.blockKind, I.ok.kind, hg, ScopeKind.isAnnotationScope, Bool.false_and, Bool.false_eq_true, if_false]
  exact q

theorem pin_gone {X : Cx} {q : Addr × Obj} {pins : List (Addr × Obj)} {σ : L2.St} {H : Hp} {s : Shared} (I : Inv X (q :: pins) σ H s) : Inv X pins σ H s := by
  refine I.pins_of fun y hy => ?_
  exact I.pin y (List.mem_append_right X.pn (List.mem_cons.mpr (.inr hy)))
theorem super_at {X : Cx} {body : List Stmt} {C a : Addr} {iC : Nat} {pins : List (Addr × Obj)} {s : Shared} {σ : L2.St} {H : Hp} {arg : Expr} {ta : TA} {p0 p1 apos pos : Pos} {pl : Sem Bool} {Q : Hp → Prop} (T : SupC X.K C) (S : SupF X C iC) (I : Inv X pins σ H s)
    (h0 : σ[0]? = some (some (.ref a))) (hc : σ[iC]? = some (some (.ref C))) (ea : H a = some (exo a C none)) (ha : PA X [arg] ta) (hst : starEach [arg] X.env = [(false, eval arg X.env)])
    (he : eval (.Call (.Attribute (.Call (.Name "super" p0) [] [] p1) "__init__" apos) [arg] [] pos) X.env = (do
      let ov ← attributeBase (.Call (.Name "super" p0) [] [] p1) "__init__" X.env (eval (.Call (.Name "super" p0) [] [] p1) X.env)
      standAt apos.atName
      let (f, first) ← holding [ov] (getMethod ov "__init__" pl)
      callWith pos f first (backTo pos (starEach [arg] X.env)) []))
    (q : ta σ H fun ys H1 => ys.length ≤ 1000 ∧ H1 a = some (exo a C none) ∧ Q H1) :
    PySem.wpAt (model X.prog X.w) X.A (.func body X.env) (eval (.Call (.Attribute (.Call (.Name "super" p0) [] [] p1) "__init__" apos) [arg] [] pos) X.env) (fun v s' => ∃ H1, Inv X pins σ H1 s' ∧ Q H1) X.xe s := by
  obtain ⟨f, cc, of, oc, fd, ar, vs, file, tf, z1, z2, z3, z4, z5, z6, z7, z8, z9, z10, z11, z12⟩ := S.fn
  obtain ⟨nm, q', N, bs, bm, sn, sub, ab, col, dd, k0, k1, k2, k3, k5, hC, hbm⟩ := T.oex.cls
  refine ks_wpAt_MethodCall (pl := pl) (ks_wpAt_super_base S.ks S.kc (by decide) z1 (I.kIn _ _ z2) z3 z4 z5 (I.kIn _ _ z6) z7 z8 z9 S.top ?_) he
  refine load_blt I S.ks S.mg PyProof.Rows.Boot.«super» (by decide) ⟨rfl, ?_⟩
  have hvC : Vis X.env.scope ("__class__" : Str) := .inr (.inr S.kc)
  refine load_slot I S.nC hvC (by decide) hc fun u ru => ?_
  obtain rfl : u = Value.ref C := ru
  refine load_slot I z10 z11 z12 h0 fun u ru => ?_
  obtain rfl : u = Value.ref a := ru
  have hCg := I.kIn _ _ hC
  obtain ⟨t0, ho⟩ := exo_at I.hok ea
  refine ks_wpAny_isType_cls hCg rfl ⟨rfl, ?_⟩
  obtain ⟨hp, g, d, t, os⟩ := s
  refine ks_wpAny_call_super hCg rfl ho rfl (fun c z => by cases z) (PySem.W.looks_subIn I.kIn T.sub) fun h1 e1 kp1 => ?_
  have I1 : Inv X pins σ H ⟨h1, g, d, t, os⟩ := I.kept (t' := t) kp1
  have hcl : PySem.W.clsIn X.K C = some { name := nm, bases := bs, mro := .ref C :: bm, ns := N, qualname := q', hasDict := true, slotNames := sn, subclasses := sub, abstract := ab, collection := col, hasDel := false } := by unfold PySem.W.clsIn; rw [hC]
  have ho1 := kp1 _ _ ho
  have Ia : PySem.W.InstAt h1 a _ C none := ⟨ho1, rfl, rfl, trivial⟩
  have hal := T.along
  unfold PySem.W.ks_superIn at hal
  rw [hcl, Option.bind_some] at hal
  refine PySem.W.kxs_getMethod PySem.W.kxs_ValueError e1 (PySem.W.looks_opaque I1.kIn T.op) ((PySem.W.looks_clsIn I1.kIn hcl).andThen .now) rfl I1.kIn hal (Ia.type.andThen (PySem.W.looks_subIn I1.kIn T.subV)) (PySem.W.ks_ne I1.kIn Ia hcl) (by decide) ?_
  have kp2 : ∀ b o, h1.get? b = some o → (h1.push (PySem.W.kxs_mw "ValueError.__init__" a)).get? b = some o := fun b o e => Heap.get?_push_of_some _ e
  have hu : (h1.push (PySem.W.kxs_mw "ValueError.__init__" a)).get? h1.objs.size = some (PySem.W.kxs_mw "ValueError.__init__" a) := Heap.get?_push_at rfl rfl
  have I2 : Inv X pins σ H ⟨h1.push (PySem.W.kxs_mw "ValueError.__init__" a), g, d, t + 1, os⟩ := I1.kept (t' := t + 1) kp2
  have hnu : H h1.objs.size = none := I1.hok.fresh (Nat.le_refl _)
  obtain ⟨f1, f2, f3, _⟩ := I1.fpOk (H' := H) (Nat.le_refl _) hnu
  have I3 : Inv X ((h1.objs.size, PySem.W.kxs_mw "ValueError.__init__" a) :: pins) σ H ⟨h1.push (PySem.W.kxs_mw "ValueError.__init__" a), g, d, t + 1, os⟩ := I2.pins_of fun p hp => by
    rcases List.mem_cons.mp hp with rfl | hp
    · exact ⟨hu, f1, f2, f3, fun v z => by cases z⟩
    · exact I2.pin p (List.mem_append_right _ hp)
  rw [hst]
  refine PySem.W.kxs_callWith (i := "ValueError.__init__") (x := a) rfl ?_
  have run := ha.run pos _ _ σ H _ I3 q
  rw [hst] at run
  refine Calls.evalArgs_plain (wpAny_mono run (fun us s2 hs => ?_) fun _ _ z => z)
  obtain ⟨ys, H1, J, r, hz, ea1, q1⟩ := hs
  have hu2 := (J.pin (h1.objs.size, PySem.W.kxs_mw "ValueError.__init__" a) (List.mem_append_right _ List.mem_cons_self)).1
  refine ⟨hu2, ?_⟩
  obtain ⟨t2, ho2⟩ := exo_at J.hok ea1
  have J' := pin_gone J
  obtain ⟨hp2, g2, d2, tk2, os2⟩ := s2
  refine wrap_call (rest := [] ++ us) (J'.kIn _ _ hC) ho2 hu2 (by rw [List.nil_append, ← Paired.length r, sizeLine_eq]; omega) fun h' t3 k hx => ?_
  have Jw := J'.write (t' := tk2) (x := a) (e := a) (o := exo a C none) (by rw [ea1]; exact True.intro) (.inl rfl) k ⟨_, hx⟩ (exo_ok hx)
  have eu : upd H1 a (exo a C none) = H1 := by
    funext b
    by_cases hb : b = a
    · rw [hb, upd_same, ea1]
    · rw [upd_ne hb]
  rw [eu] at Jw
  exact ⟨H1, Jw, q1⟩
end G
namespace G
open PySem PySem.Spec PyProof.Rows L2 NdefX

/-! # self.f = x, one behind the other, on an exception that is being made -/
inductive AsgOk (N : List Str) : List (Str × Nat) → List Stmt → Prop
  | nil : AsgOk N [] []
  | cons {f x self : Str} {i : Nat} {p1 p2 p3 p4 : Pos} {l : List (Str × Nat)} {rest : List Stmt} : N[0]? = some self → N[i]? = some x → (x == ("__debug__" : Str)) = false → (x == ("__classdict__" : Str)) = false → (self == ("__debug__" : Str)) = false → (self == ("__classdict__" : Str)) = false →
      AsgOk N l rest → AsgOk N ((f, i) :: l) (.Assign [.Attribute (.Name self p1) f p2] (.Name x p3) p4 :: rest)
/-- how far the exception at a is made: fs its fields, H0 the heap ahead -/
def Made (a C : Addr) (H0 : Hp) (fs : List (Str × V)) (H : Hp) : Prop :=
  (fs = [] ∧ H a = some (exo a C none) ∧ ∀ b, b ≠ a → H b = H0 b) ∨ ∃ d, H0 d = none ∧ d ≠ a ∧ H a = some (exo a C (some d)) ∧ H d = some (exd d fs) ∧ ∀ b, b ≠ a → b ≠ d → H b = H0 b
theorem asgs_ok {X : Cx} {C a : Addr} (T : OexC X.K C) : ∀ {l : List (Str × Nat)} {rest : List Stmt}, AsgOk X.N l rest → (∀ p ∈ l, PySem.W.findIn X.K (.ref C) p.1 = some none) → (∀ x ∈ X.N, Vis X.env.scope x) →
    ∃ t, PSs X rest t ∧ ∀ {D : Ends} {σ : L2.St} {H H0 : Hp} {fs : List (Str × V)} {ys : List V}, σ[0]? = some (some (.ref a)) → ys.length = l.length → (∀ (j : Nat) (p : Str × Nat) (y : V), l[j]? = some p → ys[j]? = some y → σ[p.2]? = some (some y)) → fs.length + l.length ≤ 900 → Made a C H0 fs H →
      (∀ H', Made a C H0 ((((l.map (·.1)).zip ys).reverse) ++ fs) H' → D.nx σ H') → t D σ H
  | _, _, .nil, _, _ => ⟨_, pss_nil, fun {D σ H H0 fs ys} _ hl _ _ hm k => by
      cases ys with
      | nil => exact k H (by simpa using hm)
      | cons _ _ => simp at hl⟩
  | _, _, .cons (f := f) (x := x) (self := self) (i := i) (p1 := p1) (p2 := p2) (p3 := p3) (p4 := p4) (l := l) (rest := rest) hs hx d1 d2 d3 d4 h, hf, hv => by
    obtain ⟨t, ht, tw⟩ := asgs_ok (a := a) T h (fun p hp => hf p (List.mem_cons_of_mem _ hp)) hv
    have q := ps_ost (f := f) (p' := p2) (pos := p4) (pe_var (pos := p1) hs (hv _ (List.mem_of_getElem? hs)) d3 d4) (pe_var (pos := p3) hx (hv _ (List.mem_of_getElem? hx)) d1 d2) rfl
    refine ⟨_, pss_cons q ht, fun {D σ H H0 fs ys} h0 hl hy hz hm k => ?_⟩
    cases ys with
    | nil => simp at hl
    | cons y ys =>
      refine ⟨y, hy 0 _ y rfl rfl, .ref a, h0, a, C, rfl, T, hf _ List.mem_cons_self, ?_⟩
      have next : ∀ H', Made a C H0 ((f, y) :: fs) H' → t D σ H' := fun H' hm' => by
        refine tw (ys := ys) h0 (by simpa using hl) (fun j p z e1 e2 => hy (j + 1) p z (by simpa using e1) (by simpa using e2)) (by simp at hz ⊢; omega) hm' fun H'' hm'' => k H'' ?_
        simpa using hm''
      rcases hm with ⟨rfl, e1, e2⟩ | ⟨d, g1, g2, g3, g4, g5⟩
      · refine .inl ⟨e1, fun dx n1 n2 => next _ (.inr ⟨dx, by rw [← e2 dx n2]; exact n1, n2, upd_same, ?_, fun b hb hd => ?_⟩)⟩
        · rw [upd_ne n2, upd_same]
        · rw [upd_ne hb, upd_ne hd]; exact e2 b hb
      · refine .inr ⟨d, fs, g3, g4, by simp at hz; omega, next _ (.inr ⟨d, g1, g2, ?_, upd_same, fun b hb hd => ?_⟩)⟩
        · rw [upd_ne (Ne.symm g2)]; exact g3
        · rw [upd_ne hd]; exact g5 b hb hd
end G
namespace G
open PySem PySem.Spec PyProof.Rows L2

/-! # an exception's dict aside -/
section
variable {K : PySem.W.Frag} {H F F' : Hp} {dd : Addr} {vs : List (Str × V)}
/-- F' has what F has, but exceptions' dicts -/
def NoXd (F F' : Hp) : Prop := ∀ a o, F a = some o → (∀ vs, o ≠ .xd vs) → F' a = some o
theorem NoXd.rd (h : NoXd F F') {a : Addr} {u : HO} (hu : ∀ vs, u ≠ .xd vs) (r : Rd F a u) : Rd F' a u := by
  rcases r with r | ⟨o, r⟩
  · exact .inl (h a u r hu)
  · exact .inr ⟨o, h a _ r fun vs z => by cases z⟩
mutual
theorem Den.noxd (e : NoXd F F') : ∀ {v : V} {t : T}, Den K F v t → Den K F' v t
  | _, _, .non => .non
  | _, _, .bl b => .bl b
  | _, _, .int i => .int i
  | _, _, .str s => .str s
  | _, _, .tup h d => .tup (h.imp (e.rd fun _ z => by cases z) id) (DenAll.noxd e d)
  | _, _, .lst h d => .lst (e _ _ h fun _ z => by cases z) (DenAll.noxd e d)
  | _, _, .rlst h d => .rlst (h.imp (e.rd fun _ z => by cases z) id) (DenAll.noxd e d)
  | _, _, .dic h d => .dic (e.rd (fun _ z => by cases z) h) (DenKV.noxd e d)
  | _, _, .adr a => .adr a
  | _, _, .obj h c d => .obj (e _ _ h fun _ z => by cases z) c (DenKV.noxd e d)
theorem DenAll.noxd (e : NoXd F F') : ∀ {v : List V} {t : List T}, DenAll K F v t → DenAll K F' v t
  | _, _, .nil => .nil
  | _, _, .cons h d => .cons (Den.noxd e h) (DenAll.noxd e d)
theorem DenKV.noxd (e : NoXd F F') : ∀ {v : List (Key × V)} {t : List (Key × T)}, DenKV K F v t → DenKV K F' v t
  | _, _, .nil => .nil
  | _, _, .cons h d => .cons (Den.noxd e h) (DenKV.noxd e d)
end
theorem noxd_del (h : H dd = some (.xd vs)) (s : Same F H) : NoXd F (del F dd) := fun a o e hn => by
  by_cases ha : a = dd
  · subst ha
    rw [s a o e] at h
    cases h
    exact absurd rfl (hn _)
  · rw [del_ne ha]; exact e
theorem IvR.notXd {v : V} {iv : Iv} {l : List Addr} (r : IvR K H F v iv l) (h : H dd = some (.xd vs)) : dd ∉ l := by
  cases r with
  | val d => simp
  | own r => cases r with
    | lst e d => intro z; simp at z; subst z; rw [h] at e; cases e
    | dic e d => intro z; simp at z; subst z; rw [h] at e; cases e
    | obj e c d => intro z; simp at z; subst z; rw [h] at e; cases e
  | lck r => cases r with
    | lst e d => intro z; simp at z; subst z; rw [h] at e; cases e
    | dic e d => intro z; simp at z; subst z; rw [h] at e; cases e
theorem IvR.del {v : V} {iv : Iv} {l : List Addr} (r : IvR K H F v iv l) (h : H dd = some (.xd vs)) (s : Same F H) : IvR K (del H dd) (del F dd) v iv l := by
  have n := r.notXd h
  have nx := noxd_del h s
  have ne : ∀ {a : Addr}, a ∈ l → L2.del H dd a = H a := fun {a} ha => del_ne fun e => n (by rw [← e]; exact ha)
  cases r with
  | val d => exact .val (d.noxd nx)
  | own r => cases r with
    | lst e d => exact .own (.lst ((ne (by simp)).trans e) (d.noxd nx))
    | dic e d => exact .own (.dic ((ne (by simp)).trans e) (d.noxd nx))
    | obj e c d => exact .own (.obj ((ne (by simp)).trans e) c (d.noxd nx))
  | lck r => cases r with
    | lst e d => exact .lck (.lst ((ne (by simp)).trans e) (d.noxd nx))
    | dic e d => exact .lck (.dic ((ne (by simp)).trans e) (d.noxd nx))
theorem EnvR.del {env : Env} {σ : L2.St} {fp : Nat → List Addr} (E : EnvR K env σ H F fp) (h : H dd = some (.xd vs)) : EnvR K env σ (del H dd) (del F dd) fp := by
  refine ⟨fun i iv e => ?_, E.out, E.dis, fun i a ha => ?_, fun a o e => ?_, E.len⟩
  · obtain ⟨v, h1, h2⟩ := E.slot i iv e
    exact ⟨v, h1, h2.del h E.sub⟩
  · by_cases hd : a = dd
    · rw [hd, del_same]
    · rw [del_ne hd]; exact E.free i a ha
  · by_cases hd : a = dd
    · rw [hd, del_same] at e; cases e
    · rw [del_ne hd] at e ⊢; exact E.sub a o e
/-- the dict put back: the worlds behind -/
def backF (F F1 : Hp) (dd : Addr) : Hp := fun b => if b = dd then F dd else F1 b
theorem EnvR.put {env : Env} {σ : L2.St} {fp : Nat → List Addr} {H1 F1 : Hp} (E : EnvR K env σ H1 F1 fp) (h0 : H1 dd = none) (h : ∀ o, F dd = some o → o = .xd vs) : EnvR K env σ (upd H1 dd (.xd vs)) (backF F F1 dd) fp ∧ Same F1 (backF F F1 dd) := by
  have sF : Same F1 (backF F F1 dd) := fun a o e => by
    have hd : a ≠ dd := fun z => by
      rw [z] at e
      have := E.sub dd o e
      rw [h0] at this; cases this
    unfold backF
    rw [if_neg hd]; exact e
  have nd : ∀ {i : Nat} {a : Addr}, a ∈ fp i → a ≠ dd := fun {i a} ha z => E.here i a ha (by rw [z]; exact h0)
  refine ⟨⟨fun i iv e => ?_, E.out, E.dis, fun i a ha => ?_, fun a o e => ?_, E.len⟩, sF⟩
  · obtain ⟨v, h1, h2⟩ := E.slot i iv e
    exact ⟨v, h1, h2.keep (fun a ha => upd_ne (nd ha)) sF⟩
  · unfold backF
    rw [if_neg (nd ha)]; exact E.free i a ha
  · unfold backF at e
    split at e
    · rename_i hd; subst hd; rw [upd_same, h o e]
    · rename_i hd; rw [upd_ne hd]; exact E.sub a o e
/-- .. and the step over it -/
theorem Stp.put {P0 P P1 : Fp} {H0 F0 H1 F1 : Hp} (s : Stp P0 H0 F0 P H F) (t : Stp P (del H dd) (del F dd) P1 H1 F1) (h : H dd = some (.xd vs)) (sF : Same F H) (np : ¬ P.own dd) (n1 : ¬ P1.all dd) : Stp P0 H0 F0 P1 (upd H1 dd (.xd vs)) (backF F F1 dd) := by
  refine s.trans ⟨fun a o e hn => ?_, fun a o e => ?_, fun a z => ?_, fun a z => ?_, fun a z => ?_, t.lk⟩
  · by_cases hd : a = dd
    · subst hd; rw [h] at e; cases e; rw [upd_same]
    · rw [upd_ne hd]; exact t.keep a o (by rw [del_ne hd]; exact e) hn
  · unfold backF
    split
    · rename_i hd; rw [← hd]; exact e
    · rename_i hd; exact t.fz a o (by rw [del_ne hd]; exact e)
  · unfold backF at z
    split at z
    · rename_i hd; left; rw [hd]; exact z
    · rename_i hd
      rcases t.nfz a z with q | q | q
      · left; rwa [del_ne hd] at q
      · exact .inr (.inl q)
      · right; right; rwa [del_ne hd] at q
  · rcases t.own a z with q | q
    · exact .inl q
    · by_cases hd : a = dd
      · rw [hd] at z; exact absurd (P1.sub _ z) n1
      · right; rwa [del_ne hd] at q
  · rcases t.all a z with q | q
    · exact .inl q
    · by_cases hd : a = dd
      · rw [hd] at z; exact absurd z n1
      · right; rwa [del_ne hd] at q
theorem EnvR.notAllD {env : Env} {σ : L2.St} {fp : Nat → List Addr} (E : EnvR K env σ H F fp) (h0 : H dd = none) : ¬ (fpOf env fp).all dd := fun ⟨i, hi⟩ => E.here i dd hi h0
theorem EnvR.notXd {env : Env} {σ : L2.St} {fp : Nat → List Addr} (E : EnvR K env σ H F fp) (h : H dd = some (.xd vs)) : ¬ (fpOf env fp).all dd := fun ⟨i, hi⟩ => by
  cases q : env[i]? with
  | none => rw [E.out i fun iv e => by rw [q] at e; cases e] at hi; simp at hi
  | some x =>
    cases x with
    | none => rw [E.out i fun iv e => by rw [q] at e; cases e] at hi; simp at hi
    | some iv =>
      obtain ⟨v, _, r⟩ := E.slot i iv q
      exact r.notXd h hi
end
end G
namespace G
open PySem PySem.Spec PyProof.Rows L2

/-! # what a suite knows of the exception that it holds -/
/-- the object at dd is a dict that holds the fields vs -/
def DictIs (od : Obj) (vs : List (Str × V)) : Prop := ∀ f v, vs.lookup f = some v → ∃ u, RelV v u ∧ PySem.W.lookIn f od = some (some u)
/-- the class facts that isinstance and a field's reading ask -/
structure XCls (K : PySem.W.Frag) (C : Addr) : Prop where
  xf : XfC K C
  cl : (PySem.W.clsIn K C).isSome = true
  ha : PySem.W.findIn K (.ref C) "__class__" = some (some (.builtin "object.__class__"))
  hn : PySem.W.specialIn K (.builtin "object.__class__") "__get__" = some (some (.builtin "getset_descriptor.__get__"))
  ht : PySem.W.takesIn K (.builtin "object.__class__") = some true
  hm : PySem.W.mroIn K C (.type "object") = some true
structure ErrX (X : Cx) (a : Addr) (nm : Str) (fs : List (Str × T)) : Prop where
  ex : ∃ (C dd : Addr) (oe od : Obj) (vs : List (Str × V)), (a, oe) ∈ X.pn ∧ (dd, od) ∈ X.pn ∧ oe.cls = .ref C ∧ oe.dict = some dd ∧ (∃ ws, oe.data = .fields ws) ∧ ClsNm X.K C nm ∧ XCls X.K C ∧ lvk fs = some vs ∧ DictIs od vs ∧
    ∀ p ∈ fs, PySem.W.findIn X.K (.ref C) p.1 = some none
theorem lvk_look : ∀ {fs : List (Str × T)} {vs : List (Str × V)} {f : Str} {t : T}, lvk fs = some vs → valT (kvT fs) (.inr f) = some t → ∃ v, vs.lookup f = some v ∧ lv t = some v ∧ ∃ p ∈ fs, p.1 = f
  | [], vs, f, t, h, e => by simp [valT, kvT] at e
  | p :: fs, vs, f, t, h, e => by
    simp only [lvk, Option.bind_eq_some_iff, Option.map_eq_some_iff] at h
    obtain ⟨v, h1, vs', h2, rfl⟩ := h
    simp only [valT, kvT, List.map_cons, List.find?_cons] at e
    by_cases hp : p.1 = f
    · subst hp
      simp at e
      subst e
      exact ⟨v, by simp [List.lookup], h1, p, List.mem_cons_self, rfl⟩
    · have e2 : decide ((Sum.inr p.1 : Key) = Sum.inr f) = false := decide_eq_false fun z => hp (Sum.inr.inj z)
      rw [e2] at e
      obtain ⟨v', q1, q2, r, q3, q4⟩ := lvk_look h2 e
      refine ⟨v', ?_, q2, r, List.mem_cons_of_mem _ q3, q4⟩
      have : (f == p.1) = false := by simpa using fun z => hp z.symm
      simp [List.lookup, this, q1]
theorem lv_den {K : PySem.W.Frag} {F : Hp} {t : T} {v : V} (h : lv t = some v) : Den K F v t := by
  cases t <;> simp [lv] at h <;> subst h
  · exact .non
  · exact .bl _
  · exact .int _
  · exact .str _
section
variable {X : Cx} {W : WX} {e : Expr} {me : Env → Out R} {pos : Pos} {a : Addr} {nm f : Str} {fs : List (Str × T)}
/-- error.f -/
def mEfld (g : T) (f : Str) (me : Env → Out R) : Env → Out R := fun env => (me env).bind fun r e1 => match r, g with
    | .val (.adr a), .tup [.adr b, .str _, .dic kvs] => if a = b then ofO ((valT kvs (.inr f)).map R.val) e1 else .stuck
    | _, _ => .stuck
def mEis (g : T) (yes : List Str) (me : Env → Out R) : Env → Out R := fun env => (me env).bind fun r e1 => match r, g with
    | .val (.adr a), .tup [.adr b, .str nm, .dic _] => if a = b then .ok (.val (.bl (yes.any fun y => decide (y = nm)))) e1 else .stuck
    | _, _ => .stuck
theorem pe_efld {te : TE} {C dd : Addr} {oe od : Obj} {vs : List (Str × V)} (p1 : (a, oe) ∈ X.pn) (p2 : (dd, od) ∈ X.pn) (c1 : oe.cls = .ref C) (c2 : oe.dict = some dd) (c3 : ∃ ws, oe.data = .fields ws) (xc : XCls X.K C) (di : DictIs od vs) (he : PE X e te)
    (hb : attributeBase e f X.env (eval e X.env) = eval e X.env) : PE X (.Attribute e f pos) fun σ H Q => te σ H fun x H1 => x = .ref a ∧ ∃ v, vs.lookup f = some v ∧ PySem.W.findIn X.K (.ref C) f = some none ∧ Q v H1 := by
  refine ⟨fun pins s σ H Q I h => attr_of hb (thn (he.run pins s σ H _ I h) fun u s1 hh => ?_)⟩
  obtain ⟨x, H1, I1, rx, ex, v, l, hno, q⟩ := hh
  subst ex
  obtain rfl : u = Value.ref a := rx
  obtain ⟨ha, _⟩ := I1.pin (a, oe) (List.mem_append_left _ p1)
  obtain ⟨hd, _⟩ := I1.pin (dd, od) (List.mem_append_left _ p2)
  obtain ⟨ws, hw⟩ := c3
  obtain ⟨u, ru, lu⟩ := di f v l
  have J : PySem.W.InstAt s1.heap a oe C (some od) := ⟨ha, c1, by unfold PySem.W.notCls; rw [hw], by rw [c2]; exact hd⟩
  exact HandSPX.exc_get I1.kIn J xc.xf.ga xc.xf.gg xc.xf.exC (PySem.W.findObj_own xc.xf.hdC hno rfl lu) (handed_of ru) ⟨v, H1, I1.tok _, ru, q⟩
theorem se_efld (er : ErrX X a nm fs) (he : PE X e (tE X.K W me)) (hb : attributeBase e f X.env (eval e X.env) = eval e X.env) : PE X (.Attribute e f pos) (tE X.K W (mEfld (encE a nm fs) f me)) := by
  obtain ⟨C, dd, oe, od, vs, p1, p2, c1, c2, c3, cn, xc, lk, di, nf⟩ := er.ex
  refine pe_imp (pe_efld p1 p2 c1 c2 c3 xc di he hb) fun σ H Q ⟨env, F, fp, E, q⟩ => ?_
  refine tE_intro E Stp.refl q fun r e1 H1 F1 fp1 v l E1 s1 rr tm q1 => ?_
  unfold encE at q1
  split at q1
  · rename_i a' b nm' kvs heq
    cases heq
    split at q1
    · rename_i hab
      subst hab
      obtain ⟨r, er, q2⟩ := ofO_asks q1
      obtain ⟨t, et, rfl⟩ := Option.map_eq_some_iff.mp er
      obtain ⟨w, g1, g2, p, g3, g4⟩ := lvk_look lk et
      cases rr with
      | val d =>
        cases d
        subst g4
        exact ⟨rfl, w, g1, nf p g3, q2 H1 F1 fp1 E1 s1 w [] (.val (lv_den g2)) .nil⟩
    · exact q1.elim
  · exact q1.elim
/-! ## isinstance -/
def rIsX (K : PySem.W.Frag) (C a : Addr) : List V → Hp → VK → Prop := fun xs H Q => ∃ (c : V) (b : Bool), xs = [.ref a, c] ∧ Q (.bl b) H ∧
  ((∃ D : Addr, c = .ref D ∧ PySem.W.kitOne K (.ref C) (.ref D) = some b) ∨ (∃ T : String, c = .ty T ∧ PySem.W.kitOne K (.ref C) (.type T) = some b) ∨ ∃ (p : Addr) (ds : List V) (us : List Value), c = .ref p ∧ H p = some (.tup ds) ∧ (∀ its, Vals ds its → its = us) ∧ PySem.W.kitAny K (.ref C) us = some b)
theorem cr_isX {C dd : Addr} {oe od : Obj} (p1 : (a, oe) ∈ X.pn) (p2 : (dd, od) ∈ X.pn) (c1 : oe.cls = .ref C) (c2 : oe.dict = some dd) (c3 : ∃ ws, oe.data = .fields ws) (xc : XCls X.K C) : CallR X (.builtin "isinstance") (rIsX X.K C a) := by
  intro pins s σ H xs us Q I r h
  obtain ⟨c, b, rfl, q, hc⟩ := h
  cases r with
  | cons rx rr =>
    cases rr with
    | cons rt rr =>
      cases rr
      cases rx
      obtain ⟨ha, _⟩ := I.pin (a, oe) (List.mem_append_left _ p1)
      obtain ⟨hd, _⟩ := I.pin (dd, od) (List.mem_append_left _ p2)
      obtain ⟨ws, hw⟩ := c3
      have J : PySem.W.InstAt s.heap a oe C (some od) := ⟨ha, c1, by unfold PySem.W.notCls; rw [hw], by rw [c2]; exact hd⟩
      have Z := PySem.W.kitx_exc (x := a) (ox := oe) (od := some od) xc.cl xc.xf.ga xc.xf.gg xc.xf.exC xc.ha xc.hn xc.ht xc.hm
      have fin : ∀ tk, EP X pins σ Q (.bool b) { s with toks := tk } := fun tk => ⟨.bl b, H, I.kept (t' := tk) fun _ _ z => z, rfl, q⟩
      rcases hc with ⟨D, rfl, e⟩ | ⟨T, rfl, e⟩ | ⟨p, ds, us', rfl, e1, e2, e3⟩
      · cases rt
        exact PySem.W.kia_one Z I.kIn J e (fun z => nomatch z) fin
      · cases rt
        exact PySem.W.kia_one Z I.kIn J e (fun z => nomatch z) fin
      · cases rt
        obtain ⟨_, its, rv, ⟨o, ho, hcl, n, hdt⟩⟩ := I.hok p _ e1
        have := e2 _ rv
        subst this
        obtain ⟨oc, od', odt, osl⟩ := o
        simp only at hcl hdt
        subst hcl hdt
        exact PySem.W.kia_tup Z I.kIn J ho e3 (fun z => nomatch z) fin
end
end G
namespace G
open PySem PySem.Spec PyProof.Rows L2

/-! # isinstance(error, ..) -/
/-- what a class name stands for, and what isinstance says of it -/
structure CRel (K : PySem.W.Frag) (C : Addr) (v : V) (u : Value) (b : Bool) : Prop where
  to : ∀ z, RelV v z → z = u
  is : PySem.W.kitOne K (.ref C) u = some b
  sh : (∃ D : Addr, v = .ref D ∧ u = .ref D) ∨ ∃ T : String, v = .ty T ∧ u = .type T
inductive CRels (K : PySem.W.Frag) (C : Addr) : List V → List Value → List Bool → Prop
  | nil : CRels K C [] [] []
  | cons {v : V} {u : Value} {b : Bool} {vs : List V} {us : List Value} {bs : List Bool} : CRel K C v u b → CRels K C vs us bs → CRels K C (v :: vs) (u :: us) (b :: bs)
theorem CRels.len {K : PySem.W.Frag} {C : Addr} {vs : List V} {us : List Value} {bs : List Bool} (h : CRels K C vs us bs) : vs.length = bs.length := by
  induction h with
  | nil => rfl
  | cons _ _ ih => simp [ih]
theorem CRels.to {K : PySem.W.Frag} {C : Addr} {vs : List V} {us : List Value} {bs : List Bool} (h : CRels K C vs us bs) : ∀ its, Vals vs its → its = us := by
  induction h with
  | nil => intro its r; cases r; rfl
  | cons c _ ih => intro its r; cases r with | cons r1 r2 => rw [c.to _ r1, ih _ r2]
theorem CRels.any {K : PySem.W.Frag} {C : Addr} {vs : List V} {us : List Value} {bs : List Bool} (h : CRels K C vs us bs) : PySem.W.kitAny K (.ref C) us = some (bs.any id) := by
  induction h with
  | nil => rfl
  | cons c _ ih =>
    rename_i b _ _ bs _
    unfold PySem.W.kitAny
    rw [c.is]
    cases b with
    | true => rfl
    | false => simpa using ih
section
variable {X : Cx} {W : WX} {e : Expr} {me : Env → Out R} {pos p1 p2 : Pos} {a C dd : Addr} {nm : Str} {fs : List (Str × T)} {oe od : Obj}
theorem eis_end {σ : L2.St} {H : Hp} {Q : VK} {yes : List Str} {P : V → Hp → Prop} (h : tE X.K W (mEis (encE a nm fs) yes me) σ H Q) (k : ∀ H1, Q (.bl (yes.any fun y => decide (y = nm))) H1 → P (.ref a) H1) : tE X.K W me σ H P := by
  obtain ⟨env, F, fp, E, q⟩ := h
  refine tE_intro E Stp.refl q fun r e1 H1 F1 fp1 v l E1 s1 rr tm q1 => ?_
  unfold encE at q1
  split at q1
  · rename_i a' b nm' kvs heq
    cases heq
    split at q1
    · rename_i hab
      subst hab
      cases rr with
      | val d => cases d; exact k _ (q1 H1 F1 fp1 E1 s1 _ [] (.val (.bl _)) .nil)
    · exact q1.elim
  · exact q1.elim
theorem se_eis1 (q1 : (a, oe) ∈ X.pn) (q2 : (dd, od) ∈ X.pn) (c1 : oe.cls = .ref C) (c2 : oe.dict = some dd) (c3 : ∃ ws, oe.data = .fields ws) (xc : XCls X.K C) {y : Str} {v : V} {u : Value} {yes : List Str} (hg : Gl X "isinstance") (hm : X.mg "isinstance" = none) (he : PE X e (tE X.K W me)) (hs : noStarE e = true)
    (hy : PE X (.Name y p1) (tC v)) (hr : CRel X.K C v u (yes.any fun z => decide (z = nm))) : PE X (.Call (.Name "isinstance" p2) [e, .Name y p1] [] pos) (tE X.K W (mEis (encE a nm fs) yes me)) := by
  refine pe_imp (pe_callB (cr_isX q1 q2 c1 c2 c3 xc) hg hm (by decide +kernel) (pa_cons he (pa_cons hy pa_nil) (star_cons hs)) (by decide) (by decide) (star_cons hs) rfl) fun σ H Q h => ?_
  refine eis_end h fun H1 q => ?_
  refine ⟨v, _, rfl, q, ?_⟩
  have := hr.is
  rcases hr.sh with ⟨D, rfl, rfl⟩ | ⟨T, rfl, rfl⟩
  · exact .inl ⟨D, rfl, this⟩
  · exact .inr (.inl ⟨T, rfl, this⟩)
theorem se_eisN (w1 : (a, oe) ∈ X.pn) (w2 : (dd, od) ∈ X.pn) (c1 : oe.cls = .ref C) (c2 : oe.dict = some dd) (c3 : ∃ ws, oe.data = .fields ws) (xc : XCls X.K C) {ns : List Expr} {k1 : Nat} {vs : List V} {us : List Value} {bs : List Bool} {yes : List Str} (hg : Gl X "isinstance") (hm : X.mg "isinstance" = none) (he : PE X e (tE X.K W me)) (hs : noStarE e = true)
    (hy : PA X ns fun _ H Q => Q vs H) (hr : CRels X.K C vs us bs) (hl : vs.length ≤ sizeLine) (hb : (bs.any id) = yes.any fun z => decide (z = nm)) : PE X (.Call (.Name "isinstance" p2) [e, .Tuple ns k1 p1] [] pos) (tE X.K W (mEis (encE a nm fs) yes me)) := by
  refine pe_imp (pe_callB (cr_isX w1 w2 c1 c2 c3 xc) hg hm (by decide +kernel) (pa_cons he (pa_cons (pe_tup hy) pa_nil) (star_cons hs)) (by decide) (by decide) (star_cons hs) rfl) fun σ H Q h => ?_
  obtain ⟨env, F, fp, E, q⟩ := h
  refine tE_intro E Stp.refl q fun r e1 H1 F1 fp1 v l E1 s1 rr tm q1 => ?_
  unfold encE at q1
  split at q1
  · rename_i a' b nm' kvs heq
    cases heq
    split at q1
    · rename_i hab
      subst hab
      cases rr with
      | val d =>
        cases d
        refine ⟨hl, fun tp hp => ?_⟩
        have E2 := E1.alloc (o := .tup vs) hp
        exact ⟨.ref tp, _, rfl, q1 _ _ fp1 E2 (s1.alloc hp) _ [] (.val (.bl _)) .nil, .inr (.inr ⟨tp, vs, us, rfl, upd_same, hr.to, by rw [hr.any, hb]⟩)⟩
    · exact q1.elim
  · exact q1.elim
end
/-! # a suite's context -/
section
variable {X : Cx} {pins : List (Addr × Obj)} {σ : L2.St} {H : Hp} {s : Shared} {dd : Addr} {vs : List (Str × V)}
theorem Cx.Ok.pn (ok : X.Ok) (pn : List (Addr × Obj)) : Cx.Ok { X with pn := pn } :=
  { mod := ok.mod, kind := ok.kind, glob := ok.glob, blt := ok.blt, above := ok.above, inj := ok.inj, has := ok.has, cab := ok.cab, hd := ok.hd, frames := ok.frames, stk := ok.stk, exf := ok.exf, bs := ok.bs, bsz := ok.bsz, noex := ok.noex, exfs := ok.exfs, funs := ok.funs, frf := ok.frf }
theorem Cx.Ok.unpn {pn : List (Addr × Obj)} (ok : Cx.Ok { X with pn := pn }) : X.Ok :=
  { mod := ok.mod, kind := ok.kind, glob := ok.glob, blt := ok.blt, above := ok.above, inj := ok.inj, has := ok.has, cab := ok.cab, hd := ok.hd, frames := ok.frames, stk := ok.stk, exf := ok.exf, bs := ok.bs, bsz := ok.bsz, noex := ok.noex, exfs := ok.exfs, funs := ok.funs, frf := ok.frf }
/-- the exception's dict is pinned, and no more tracked -/
theorem Inv.aside {od : Obj} (I : Inv X pins σ H s) (hd : H dd = some (.xd vs)) (ho : s.heap.get? dd = some od) (nc : ∀ v, od.data ≠ .cell v) : Inv { X with pn := (dd, od) :: X.pn } pins σ (del H dd) s := by
  have hL : dd ≠ X.env.locals := fun z => by rw [z, I.free] at hd; cases hd
  have none_of : ∀ {b : Addr}, H b = none → b ≠ dd := fun {b} n z => by rw [z, hd] at n; cases n
  have hF : dd ∉ X.fs := fun hm => by
    obtain ⟨_, o, h2, _⟩ := I.ok.funs.mem hm
    have hx : dd ∉ X.ex := fun hx => I.ok.exfs dd hx hm
    exact none_of (I.base.free dd o h2 (I.ok.frf dd hm) hx) rfl
  have B := I.base
  refine { ok := Cx.Ok.pn I.ok _, os := I.os, bare := I.bare, base := ⟨B.keep, B.slot, fun b o e n hx => ?_, B.there, fun b xs e => ?_, fun b o u e => ?_, fun b ps e => ?_⟩, loc := I.loc, cell := I.cell, free := ?_, freeC := fun x c e => ?_, pin := fun p hp => ?_, hok := fun b o e => ?_, len := I.len }
  · have := B.free b o e n hx
    rw [del_ne (none_of this)]; exact this
  · have := B.tups b xs e
    rw [del_ne fun z => by rw [z, hd] at this; cases this]; exact this
  · have := B.frzs b o u e
    rw [del_ne fun z => by rw [z, hd] at this; cases this]; exact this
  · obtain ⟨more, this⟩ := B.tbls b ps e
    exact ⟨more, by rw [del_ne fun z => by rw [z, hd] at this; cases this]; exact this⟩
  · rw [del_ne (Ne.symm hL)]; exact I.free
  · rw [del_ne (none_of (I.freeC x c e))]; exact I.freeC x c e
  · rcases List.mem_append.mp hp with hp | hp
    · rcases List.mem_cons.mp hp with rfl | hp
      · exact ⟨ho, del_same, hL, hF, nc⟩
      · obtain ⟨a1, a2, a3⟩ := I.pin p (List.mem_append_left _ hp)
        exact ⟨a1, by rw [del_ne (none_of a2)]; exact a2, a3⟩
    · obtain ⟨a1, a2, a3⟩ := I.pin p (List.mem_append_right _ hp)
      exact ⟨a1, by rw [del_ne (none_of a2)]; exact a2, a3⟩
  · have hb : b ≠ dd := fun z => by rw [z, del_same] at e; cases e
    rw [del_ne hb] at e
    refine (I.hok b o e).stay (fun c v hc q => q) (fun c hc => ?_) fun c xs hc => ?_
    · rw [del_ne fun z => by rw [z, hd] at hc; cases hc]; exact hc
    · rw [del_ne fun z => by rw [z, hd] at hc; cases hc]; exact hc
/-- .. and put back -/
theorem Inv.unaside {od : Obj} (I : Inv { X with pn := (dd, od) :: X.pn } pins σ H s) (nf : ∀ o, X.s_0.heap.get? dd = some o → X.H_0 dd = none → dd ∉ X.ex → False) (np : ∀ p ∈ X.pn ++ pins, p.1 ≠ dd)
    (hod : ∀ h : Heap, h.get? dd = some od → ∃ mA, h.Ns1 dd mA ∧ ∀ f, RelO (vs.lookup f) (mA f)) : Inv X pins σ (upd H dd (.xd vs)) s := by
  obtain ⟨p1, p2, p3, p4, p5⟩ := I.pin (dd, od) (List.mem_append_left _ List.mem_cons_self)
  have B := I.base
  have nd : ∀ {b : Addr} {o : HO}, H b = some o → b ≠ dd := fun {b o} e z => by rw [z, p2] at e; cases e
  refine { ok := Cx.Ok.unpn I.ok, os := I.os, bare := I.bare, base := ⟨B.keep, B.slot, fun b o e n hx => ?_, B.there, fun b xs e => ?_, fun b o u e => ?_, fun b ps e => ?_⟩, loc := I.loc, cell := I.cell, free := ?_, freeC := fun x c e => ?_, pin := fun p hp => ?_, hok := fun b o e => ?_, len := I.len }
  · by_cases hb : b = dd
    · subst hb; exact (nf o e n hx).elim
    · rw [upd_ne hb]; exact B.free b o e n hx
  · have := B.tups b xs e
    rw [upd_ne (nd this)]; exact this
  · have := B.frzs b o u e
    rw [upd_ne (nd this)]; exact this
  · obtain ⟨more, this⟩ := B.tbls b ps e
    exact ⟨more, by rw [upd_ne (nd this)]; exact this⟩
  · rw [upd_ne (Ne.symm p3)]; exact I.free
  · have hc : c ≠ dd := fun z => by
      obtain ⟨v, o, h1, h2⟩ := I.cell x c e
      rw [z] at h1
      have h3 : s.heap.get? dd = some od := p1
      rw [h3] at h1
      cases h1
      exact p5 v h2
    rw [upd_ne hc]; exact I.freeC x c e
  · have hn := np p hp
    have : p ∈ (dd, od) :: X.pn ++ pins := by
      rcases List.mem_append.mp hp with h | h
      · exact List.mem_append_left _ (List.mem_cons_of_mem _ h)
      · exact List.mem_append_right _ h
    obtain ⟨a1, a2, a3⟩ := I.pin p this
    exact ⟨a1, by rw [upd_ne hn]; exact a2, a3⟩
  · by_cases hb : b = dd
    · subst hb
      rw [upd_same] at e
      cases e
      exact hod s.heap p1
    · rw [upd_ne hb] at e
      refine (I.hok b o e).stay (fun c v hc q => q) (fun c hc => ?_) fun c xs hc => ?_
      · rw [upd_ne (nd hc)]; exact hc
      · rw [upd_ne (nd hc)]; exact hc
end
end G
namespace G
open PySem PySem.Spec PyProof.Rows L2

/-! # try .. except X as error: suite -/
section
variable {K : PySem.W.Frag} {fx : Nat → Bool}
theorem wipeO_eq (env : Env) (slot : Option Nat) : wipeO env slot = wipeE env (slot.toList) := by cases slot <;> rfl
def wipeS (σ : L2.St) : Option Nat → L2.St
  | none => σ
  | some i => σ.set i none
theorem wipeS_eq (σ : L2.St) (slot : Option Nat) : wipeS σ slot = L2.wipe σ (slot.toList) := by cases slot <;> rfl
/-- the ends that a suite has, with the dict aside -/
def asideD (dd : Addr) (vs : List (Str × V)) (slot : Option Nat) (D : Ends) : Ends where
  nx := fun σ' H' => H' dd = none → D.nx (wipeS σ' slot) (upd H' dd (.xd vs))
  bk := fun σ' H' => H' dd = none → D.bk (wipeS σ' slot) (upd H' dd (.xd vs))
  ct := fun σ' H' => H' dd = none → D.ct (wipeS σ' slot) (upd H' dd (.xd vs))
  rt := fun v H' => H' dd = none → D.rt v (upd H' dd (.xd vs))
/-- an address for the exception, and the slot's new value -/
def slotS (σ : L2.St) (a : Addr) : Option Nat → L2.St
  | none => σ
  | some i => σ.set i (some (.ref a))
def slotE (env : Env) (a : Addr) : Option Nat → Env
  | none => env
  | some i => env.set i (some (.val (.adr a)))
theorem slotE_eq (env : Env) (a : Addr) (slot : Option Nat) : (match slot with | some i => env.set i (some (.val (.adr a))) | none => env) = slotE env a slot := by cases slot <;> rfl
def slotF (fp : Nat → List Addr) : Option Nat → Nat → List Addr
  | none => fp
  | some i => fun j => if j = i then [] else fp j
theorem slot_set {env : Env} {σ : L2.St} {H F : Hp} {fp : Nat → List Addr} {slot : Option Nat} {a : Addr} (E : EnvR K env σ H F fp) (h : slotOk fx slot env = true) :
    EnvR K (slotE env a slot) (slotS σ a slot) H F (slotF fp slot) ∧ Stp (fpOf env fp) H F (fpOf (slotE env a slot) (slotF fp slot)) H F ∧ Fix fx σ (slotS σ a slot) ∧ ∀ x, (fpOf (slotE env a slot) (slotF fp slot)).all x → (fpOf env fp).all x := by
  cases slot with
  | none => exact ⟨E, Stp.refl, Fix.refl, fun _ h => h⟩
  | some i =>
    simp only [slotOk, Bool.and_eq_true, Bool.not_eq_true', decide_eq_true_eq] at h
    obtain ⟨e1, s1⟩ := E.setVal h.1 (.adr a : Den K F (.ref a) (.adr a))
    refine ⟨e1, s1, ⟨fun j hj => ?_⟩, fun x ⟨j, hj⟩ => ?_⟩
    · have : j ≠ i := fun e => by rw [e, h.2] at hj; cases hj
      exact List.getElem?_set_ne (Ne.symm this)
    · have hj : x ∈ (if j = i then [] else fp j) := hj
      split at hj
      · simp at hj
      · exact ⟨j, hj⟩
theorem wipe_fix {σ : L2.St} {slot : Option Nat} {env : Env} (h : slotOk fx slot env = true) : Fix fx σ (wipeS σ slot) := by
  cases slot with
  | none => exact Fix.refl
  | some i =>
    simp only [slotOk, Bool.and_eq_true, Bool.not_eq_true', decide_eq_true_eq] at h
    refine ⟨fun j hj => ?_⟩
    have : j ≠ i := fun e => by rw [e, h.2] at hj; cases hj
    exact List.getElem?_set_ne (Ne.symm this)
/-- from the suite's outcome to what is asked of it with the dict aside -/
theorem suite_asks {o : Out Sg} {slot : Option Nat} {a dd : Addr} {vs : List (Str × V)} {env : Env} {σ σ0 : L2.St} {H F H0 F0 : Hp} {fp : Nat → List Addr} {P0 : Fp} {W : WX} {D : Ends}
    (E : EnvR K env σ H F fp) (s : Stp P0 H0 F0 (fpOf env fp) H F) (f : Fix fx σ0 σ) (hd : H dd = some (.xd vs)) (hs : slotOk fx slot env = true)
    (q : (noexc (mapE (fun e => wipeO e slot) o)).askS K W fx σ0 H0 F0 P0 (EndQ K H0 P0 D)) :
    o.askS K W0 fx (slotS σ a slot) (L2.del H dd) (L2.del F dd) (fpOf (slotE env a slot) (slotF fp slot)) (EndQ K (L2.del H dd) (fpOf (slotE env a slot) (slotF fp slot)) (asideD dd vs slot D)) := by
  obtain ⟨Ea, sa, fa, alla⟩ := slot_set (a := a) E hs
  have notX : ¬ (fpOf (slotE env a slot) (slotF fp slot)).own dd := fun z => E.notXd hd (alla _ ((fpOf (slotE env a slot) (slotF fp slot)).sub _ z))
  cases o with
  | stuck => exact q
  | exc x e => exact q.elim
  | ok g e =>
    simp only [mapE, noexc] at q
    intro σ' H1 F1 fp1 E1 s1 f1
    have hF : ∀ o, F dd = some o → o = .xd vs := fun o e => by
      have := E.sub dd o e
      rw [hd] at this; cases this; rfl
    have core : H1 dd = none → EnvR K (wipeO e slot) (wipeS σ' slot) (upd H1 dd (.xd vs)) (backF F F1 dd) (fun j => if j ∈ slot.toList then [] else fp1 j) ∧ Stp P0 H0 F0 (fpOf (wipeO e slot) fun j => if j ∈ slot.toList then [] else fp1 j) (upd H1 dd (.xd vs)) (backF F F1 dd) ∧ Fix fx σ0 (wipeS σ' slot) ∧ Same F1 (backF F F1 dd) ∧
        Stp P0 H0 F0 (fpOf e fp1) (upd H1 dd (.xd vs)) (backF F F1 dd) := fun h0 => by
      obtain ⟨E2, sF⟩ := E1.put h0 hF
      have s2 := (s.trans sa).put s1 hd E.sub notX (E1.notAllD h0)
      obtain ⟨E3, s3⟩ := E2.wipe slot.toList
      rw [wipeO_eq, wipeS_eq]
      refine ⟨E3, s2.trans s3, ?_, sF, s2⟩
      rw [← wipeS_eq]
      exact ((f.trans fa).trans f1).trans (wipe_fix hs)
    cases g with
    | nxt => intro h0; obtain ⟨q1, q2, q3, _⟩ := core h0; exact q _ _ _ _ q1 q2 q3
    | brk => intro h0; obtain ⟨q1, q2, q3, _⟩ := core h0; exact q _ _ _ _ q1 q2 q3
    | cnt => intro h0; obtain ⟨q1, q2, q3, _⟩ := core h0; exact q _ _ _ _ q1 q2 q3
    | ret iv =>
      intro v l r tm h0
      obtain ⟨q1, q2, q3, sF, s2⟩ := core h0
      have nl : ∀ b ∈ l, b ≠ dd := fun b hb z => by
        rcases (r.here b hb) with w
        exact w (by rw [z]; exact h0)
      refine q _ _ _ _ q1 q2 q3 v l (r.keep (fun b hb => upd_ne (nl b hb)) sF) fun b hb => ?_
      obtain ⟨t1, t2, t3⟩ := tm b hb
      have nb := nl b hb
      refine ⟨?_, fun ⟨j, hj⟩ => t2 ⟨j, ?_⟩, ?_⟩
      · unfold backF; rw [if_neg nb]; exact t1
      · have hj : b ∈ (if j ∈ slot.toList then [] else fp1 j) := hj
        split at hj
        · simp at hj
        · exact hj
      · have s4 := s.trans sa
        exact t3.elim (s4.own b) fun z => s4.back (by rw [del_ne nb] at z; exact z)
end
/-- the suite in its place: the dict is pinned while it runs -/
def tSuite (K : PySem.W.Frag) (fx : Nat → Bool) (xs : List Str) (m : Str → List (Str × T) → Addr → Env → Out Sg) (slot : Option Nat) (a : Addr) (cls : Value) (d : Option Addr) : TS := fun D σ H =>
  ∃ (nm : Str) (fs : List (Str × T)) (C dd : Addr) (vs : List (Str × V)), nm ∈ xs ∧ cls = .ref C ∧ d = some dd ∧ ClsNm K C nm ∧ XCls K C ∧ lvk fs = some vs ∧ H dd = some (.xd vs) ∧ (∀ p ∈ fs, PySem.W.findIn K (.ref C) p.1 = some none) ∧
    tS K W0 fx (m nm fs a) (asideD dd vs none D) σ (L2.del H dd)
theorem suite_ok {X : Cx} {fx : Nat → Bool} {xs : List Str} {m : Str → List (Str × T) → Addr → Env → Out Sg} {slot : Option Nat} {suite : List Stmt}
    (h : ∀ (a : Addr) (pn : List (Addr × Obj)) (nm : Str) (fs : List (Str × T)), nm ∈ xs → ErrX (X.suite a pn) a nm fs → PSs (X.suite a pn) suite (tS X.K W0 fx (m nm fs a)))
    {a : Addr} {oe : Obj} {cls : Value} {d : Option Addr} {pn : List (Addr × Obj)} (hz : Zc cls d oe) (hd : ∃ vs, oe.data = .fields vs) : PSs (X.suite a ((a, oe) :: pn)) suite (tSuite X.K fx xs m slot a cls d) := by
  refine ⟨fun pins s σ H D I q => ?_⟩
  obtain ⟨nm, fs, C, dd, vs, hx, rfl, rfl, cn, xc, lk, hH, nf, q⟩ := q
  obtain ⟨mA, hns, rel⟩ := I.hok dd _ hH
  obtain ⟨od, ho, hl⟩ := lookIn_ns hns
  have nc : ∀ v, od.data ≠ .cell v := fun v z => by
    obtain ⟨o, es, ep, e1, e2, _⟩ := hns
    rw [ho] at e1; cases e1
    rw [z] at e2; cases e2
  have I2 := Inv.aside (X := X.suite a ((a, oe) :: pn)) (od := od) I hH ho nc
  have di : DictIs od vs := fun f v e => by
    obtain ⟨u, hu, ru⟩ := RelO.some_of (v := v) (o := mA f) (by rw [← e]; exact rel f)
    exact ⟨u, ru, by rw [hl, hu]⟩
  have er : ErrX (X.suite a ((dd, od) :: (a, oe) :: pn)) a nm fs := ⟨C, dd, oe, od, vs, List.mem_cons_of_mem _ List.mem_cons_self, List.mem_cons_self, hz.1, hz.2, hd, cn, xc, lk, di, nf⟩
  have r := (h a ((dd, od) :: (a, oe) :: pn) nm fs hx er).run pins s σ _ _ I2 q
  have np : ∀ p ∈ (a, oe) :: pn ++ pins, p.1 ≠ dd := fun p hp z => by
    have := (I.pin p hp).2.1
    rw [z, hH] at this; cases this
  have nfr : ∀ o, X.s_0.heap.get? dd = some o → X.H_0 dd = none → dd ∉ X.ex → False := fun o e1 e2 e3 => by
    have := I.base.free dd o e1 e2 e3
    rw [hH] at this; cases this
  have back : ∀ {σ' : L2.St} {H' : Hp} {s' : Shared}, Inv (X.suite a ((dd, od) :: (a, oe) :: pn)) pins σ' H' s' → H' dd = none ∧ Inv (X.suite a ((a, oe) :: pn)) pins σ' (upd H' dd (.xd vs)) s' := fun {σ' H' s'} J =>
    ⟨(J.pin (dd, od) (List.mem_append_left _ List.mem_cons_self)).2.1, Inv.unaside (X := X.suite a ((a, oe) :: pn)) J nfr np fun hp e => ⟨mA, hns.at fun o y => by rw [ho] at y; cases y; exact e, rel⟩⟩
  refine wpAny_mono r (fun fl s' z => ?_) fun _ _ z => z
  cases fl with
  | next =>
    obtain ⟨σ', H', J, q⟩ := z
    obtain ⟨h0, J'⟩ := back J
    exact ⟨σ', _, J', q h0⟩
  | brk =>
    obtain ⟨σ', H', J, q⟩ := z
    obtain ⟨h0, J'⟩ := back J
    exact ⟨σ', _, J', q h0⟩
  | cont =>
    obtain ⟨σ', H', J, q⟩ := z
    obtain ⟨h0, J'⟩ := back J
    exact ⟨σ', _, J', q h0⟩
  | ret u =>
    obtain ⟨v, σ', H', J, rv, q⟩ := z
    obtain ⟨h0, J'⟩ := back J
    exact ⟨v, σ', _, J', rv, q h0⟩
/-- what is known of the classes that a clause may meet -/
structure Catch (K : PySem.W.Frag) (c : Value) (yes no : List Str) : Prop where
  yes : ∀ C nm, nm ∈ yes → ClsNm K C nm → XCls K C ∧ PySem.W.exmOne K (.ref C) c = some true
  no : ∀ C nm, nm ∈ no → ClsNm K C nm → PySem.W.exmOne K (.ref C) c = some false
section
variable {X : Cx} {W : WX} {fx : Nat → Bool} {m1 : Env → Out Sg} {C0' : Nat → List Iv → Res} {G : Nat → T} {D0' : Nat → Nat → List T} {su : SUs} {yes no : List Str} {x : Str} {c : Value} {np pos pos' : Pos} {body suite : List Stmt} {b0 : Stmt}
theorem any_mem {l : List Str} {nm : Str} (h : (l.any fun y => decide (y = nm)) = true) : nm ∈ l := by
  obtain ⟨y, hy, e⟩ := List.any_eq_true.mp h
  have : y = nm := of_decide_eq_true e
  rwa [this] at hy
/-- the common part: what the clause wishes -/
theorem catch_ok {D : Ends} {slot : Option Nat} {σ σ0 : L2.St} {H F H0 F0 : Hp} {P0 : Fp} {env : Env} {fp : Nat → List Addr} {nm : Str} {fs : List (Str × T)} {cls : Value} {d : Option Addr} (hc : Catch X.K c yes no) (E : EnvR X.K env σ H F fp) (s : Stp P0 H0 F0 (fpOf env fp) H F) (f : Fix fx σ0 σ)
    (xr : XR X.K (.usr nm fs) cls d H)
    (q : (if (yes.any fun y => decide (y = nm)) = true then (if slotOk fx slot env = true then suiteR C0' G D0' fx nm fs su slot env else .stuck) else if (no.any fun y => decide (y = nm)) = true then .exc (.usr nm fs) env else .stuck).askS X.K W fx σ0 H0 F0 P0 (EndQ X.K H0 P0 D)) :
    ∃ b, PySem.W.exmOne X.K cls c = some b ∧ (b = true → ∀ a, H a = none → tSuite X.K fx yes (fun nm fs a => sus C0' (setG G (encE a nm fs)) D0' fx su) slot a cls d
      { nx := fun σ' H' => D.nx (wipeS σ' slot) H', rt := D.rt, bk := fun σ' H' => D.bk (wipeS σ' slot) H', ct := fun σ' H' => D.ct (wipeS σ' slot) H' } (slotS σ a slot) H) ∧ (b = false → W cls d σ H) := by
  split at q
  · rename_i hy
    have hy := any_mem hy
    obtain ⟨C, dd, vs, e1, cn, e2, lk, hH, nf⟩ := id xr
    subst e1 e2
    obtain ⟨xc, hx⟩ := hc.yes C nm hy cn
    split at q
    · rename_i hs
      refine ⟨true, hx, fun _ a _ => ⟨nm, fs, C, dd, vs, hy, rfl, rfl, cn, xc, lk, hH, nf, slotE env a slot, L2.del F dd, slotF fp slot, ?_, ?_⟩, fun z => by cases z⟩
      · obtain ⟨Ea, _⟩ := slot_set (a := a) E hs
        exact Ea.del hH
      · have hne : suiteR C0' G D0' fx nm fs su slot env ≠ .stuck := fun z => by rw [z] at q; exact q
        have hi : noexc (mapE (fun e => wipeO e slot) (sus C0' (setG G (encE a nm fs)) D0' fx su (slotE env a slot))) = suiteR C0' G D0' fx nm fs su slot env := by
          have := suiteR_is hne a
          cases slot <;> exact this
        rw [← hi] at q
        exact suite_asks (a := a) E s f hH hs q
    · exact q.elim
  · split at q
    · rename_i hn
      have hn := any_mem hn
      obtain ⟨C, dd, vs, e1, cn, e2, lk, hH, nf⟩ := id xr
      refine ⟨false, by rw [e1]; exact hc.no C nm hn cn, (fun z => by cases z), fun _ => q cls d σ H F fp E s f xr⟩
    · exact q.elim
theorem ss_tryX (hs : X.stack = X.env :: X.outer) (hf : X.env.frame = some X.env.locals) (hn : L2.Names X x c) (hc : Catch X.K c yes no) (tk : Takes X W)
    (hb : ∀ (W : WX) (pn : List (Addr × Obj)) (xe : Value → Shared → Prop), Takes (X.tr pn xe) W → PassesOwn (model X.prog X.w) X.A X.env xe → PSs (X.tr pn xe) body (tS X.K W fx m1))
    (hsu : ∀ (a : Addr) (pn : List (Addr × Obj)) (nm : Str) (fs : List (Str × T)), nm ∈ yes → ErrX (X.suite a pn) a nm fs → PSs (X.suite a pn) (b0 :: suite) (tS X.K W0 fx (sus C0' (setG G (encE a nm fs)) D0' fx su))) :
    PS X (.Try body [.ExceptHandler (some (.Name x np)) none (b0 :: suite) pos'] [] [] pos) (tS X.K W fx fun env => match m1 env with
      | .exc (.usr nm fs) e => if (yes.any fun y => decide (y = nm)) = true then (if slotOk fx none e = true then suiteR C0' G D0' fx nm fs su none e else .stuck) else if (no.any fun y => decide (y = nm)) = true then .exc (.usr nm fs) e else .stuck
      | .exc (.blt _) _ => .stuck
      | o => o) := by
  refine ps_imp (ps_try_only (ts := fun a cls d => tSuite X.K fx yes (fun nm fs a => sus C0' (setG G (encE a nm fs)) D0' fx su) none a cls d) (tb := fun W => tS X.K W fx m1) (Wout := W) hs hf hn tk hb fun a oe cls d pn hz hd => suite_ok hsu hz hd) fun D σ H ⟨env, F, fp, E, q⟩ => ⟨env, F, fp, E, ?_⟩
  cases em : m1 env with
  | stuck => simp only [em] at q; exact q
  | ok g e => simp only [em] at q; exact q
  | exc z e =>
    cases z with
    | blt m => simp only [em] at q; exact q.elim
    | usr nm fs =>
      simp only [em] at q
      intro cls d σ' H' F' fp' E' s' f' xr
      exact catch_ok hc E' s' f' xr q
theorem ss_tryXs {n : Str} {i : Nat} (hs : X.stack = X.env :: X.outer) (hf : X.env.frame = some X.env.locals) (hN : X.N.Nodup) (hi : X.N[i]? = some n) (hln : X.env.kindOf n = some .local) (hn : L2.Names X x c) (hc : Catch X.K c yes no) (tk : Takes X W)
    (hb : ∀ (W : WX) (pn : List (Addr × Obj)) (xe : Value → Shared → Prop), Takes (X.tr pn xe) W → PassesOwn (model X.prog X.w) X.A X.env xe → PSs (X.tr pn xe) body (tS X.K W fx m1))
    (hsu : ∀ (a : Addr) (pn : List (Addr × Obj)) (nm : Str) (fs : List (Str × T)), nm ∈ yes → ErrX (X.suite a pn) a nm fs → PSs (X.suite a pn) (b0 :: suite) (tS X.K W0 fx (sus C0' (setG G (encE a nm fs)) D0' fx su))) :
    PS X (.Try body [.ExceptHandler (some (.Name x np)) (some n) (b0 :: suite) pos'] [] [] pos) (tS X.K W fx fun env => match m1 env with
      | .exc (.usr nm fs) e => if (yes.any fun y => decide (y = nm)) = true then (if slotOk fx (some i) e = true then suiteR C0' G D0' fx nm fs su (some i) e else .stuck) else if (no.any fun y => decide (y = nm)) = true then .exc (.usr nm fs) e else .stuck
      | .exc (.blt _) _ => .stuck
      | o => o) := by
  refine ps_imp (ps_try_as (ts := fun a cls d => tSuite X.K fx yes (fun nm fs a => sus C0' (setG G (encE a nm fs)) D0' fx su) (some i) a cls d) (tb := fun W => tS X.K W fx m1) (Wout := W) hs hf hN hi hln hn tk hb fun a oe cls d pn hz hd => suite_ok hsu hz hd) fun D σ H ⟨env, F, fp, E, q⟩ => ⟨env, F, fp, E, ?_⟩
  cases em : m1 env with
  | stuck => simp only [em] at q; exact q
  | ok g e => simp only [em] at q; exact q
  | exc z e =>
    cases z with
    | blt m => simp only [em] at q; exact q.elim
    | usr nm fs =>
      simp only [em] at q
      intro cls d σ' H' F' fp' E' s' f' xr
      exact catch_ok (slot := some i) hc E' s' f' xr q
end
end G
namespace G
open PySem PySem.Spec PyProof.Rows L2

/-! # raise C(..), C an own exception class -/
theorem lvs_len : ∀ {ts : List T} {vs : List V}, lvs ts = some vs → vs.length = ts.length
  | [], vs, h => by simp [lvs] at h; subst h; rfl
  | t :: ts, vs, h => by
    simp only [lvs, Option.bind_eq_some_iff, Option.map_eq_some_iff] at h
    obtain ⟨v, _, vs', h2, rfl⟩ := h
    simp [lvs_len h2]
theorem lvs_get : ∀ {ts : List T} {vs : List V} {i : Nat} {t : T}, lvs ts = some vs → ts[i]? = some t → ∃ v, vs[i]? = some v ∧ lv t = some v
  | [], vs, i, t, h, e => by simp at e
  | t0 :: ts, vs, i, t, h, e => by
    simp only [lvs, Option.bind_eq_some_iff, Option.map_eq_some_iff] at h
    obtain ⟨v, h1, vs', h2, rfl⟩ := h
    cases i with
    | zero => simp at e; subst e; exact ⟨v, rfl, h1⟩
    | succ i => simpa using lvs_get h2 (by simpa using e)
/-- what the __init__ of an exception class promises -/
def spInit (C : Addr) (l : List (Str × Nat)) (ie : IE) : Sp := fun vs H Q E => ∃ (a : Addr) (ts : List T) (us : List V), vs = .ref a :: us ∧ lvs ts = some us ∧ ts.length = l.length ∧ msgOk ie ts = true ∧ H a = some (exo a C none) ∧
  ∀ d H', H d = none → d ≠ a → H' a = some (exo a C (some d)) → H' d = some (exd d (((l.map (·.1)).zip us).reverse)) → (∀ b o, b ≠ a → H b = some o → H' b = some o) → Q .non H'
theorem den_lv {K : PySem.W.Frag} {F : Hp} {t : T} {v u : V} (d : Den K F v t) (h : lv t = some u) : v = u := by
  cases d <;> simp [lv] at h <;> exact h
theorem den_lvs {K : PySem.W.Frag} {F : Hp} : ∀ {ts : List T} {vs us : List V}, DenAll K F vs ts → lvs ts = some us → vs = us
  | _, _, us, .nil, h => by simp [lvs] at h; exact h.symm ▸ rfl
  | _, _, us, .cons d ds, h => by
    simp only [lvs, Option.bind_eq_some_iff, Option.map_eq_some_iff] at h
    obtain ⟨v, h1, vs', h2, rfl⟩ := h
    rw [den_lv d h1, den_lvs ds h2]
theorem vals_den {K : PySem.W.Frag} {σ : L2.St} {H F : Hp} : ∀ {rs : List R} {vs : List V} {l : List Addr} {ts : List T}, RRs K σ H F rs vs l → valsR rs = some ts → DenAll K F vs ts
  | _, _, _, ts, .nil, h => by simp [valsR] at h; subst h; exact .nil
  | _, _, _, ts, .cons r rs _, h => by
    cases r with
    | val d =>
      simp only [valsR, Option.map_eq_some_iff] at h
      obtain ⟨ts', h1, rfl⟩ := h
      exact .cons d (vals_den rs h1)
    | new _ => simp [valsR] at h
    | loan _ => simp [valsR] at h
theorem lvk_app : ∀ {as bs : List (Str × T)} {us vs : List (Str × V)}, lvk as = some us → lvk bs = some vs → lvk (as ++ bs) = some (us ++ vs)
  | [], bs, us, vs, h, h2 => by simp [lvk] at h; subst h; simpa using h2
  | a :: as, bs, us, vs, h, h2 => by
    simp only [lvk, Option.bind_eq_some_iff, Option.map_eq_some_iff] at h
    obtain ⟨v, h1, vs', h3, rfl⟩ := h
    simp [lvk, h1, lvk_app h3 h2]
theorem lvk_rev : ∀ {as : List (Str × T)} {us : List (Str × V)}, lvk as = some us → lvk as.reverse = some us.reverse
  | [], us, h => by simp [lvk] at h; subst h; rfl
  | a :: as, us, h => by
    simp only [lvk, Option.bind_eq_some_iff, Option.map_eq_some_iff] at h
    obtain ⟨v, h1, vs', h3, rfl⟩ := h
    rw [List.reverse_cons, List.reverse_cons]
    exact lvk_app (lvk_rev h3) (by simp [lvk, h1])
theorem lvk_zip : ∀ {fl : List Str} {ts : List T} {us : List V}, lvs ts = some us → ts.length = fl.length → lvk (fl.zip ts) = some (fl.zip us)
  | [], ts, us, h, e => by
    have : ts = [] := List.eq_nil_of_length_eq_zero (by simpa using e)
    subst this
    simp [lvk]
  | f :: fl, [], us, h, e => by simp at e
  | f :: fl, t :: ts, us, h, e => by
    simp only [lvs, Option.bind_eq_some_iff, Option.map_eq_some_iff] at h
    obtain ⟨v, h1, vs', h2, rfl⟩ := h
    have := lvk_zip (fl := fl) h2 (by simpa using e)
    simp [lvk, h1, this]
/-- a world that grows -/
theorem EnvR.more {K : PySem.W.Frag} {env : Env} {σ : L2.St} {H H' F : Hp} {fp : Nat → List Addr} (E : EnvR K env σ H F fp) (k : ∀ b o, H b = some o → H' b = some o) : EnvR K env σ H' F fp := by
  have eq : ∀ i a, a ∈ fp i → H' a = H a := fun i a ha => by
    cases h : H a with
    | none => exact absurd h (E.here i a ha)
    | some o => exact k a o h
  exact ⟨fun i iv e => by
    obtain ⟨v, h1, h2⟩ := E.slot i iv e
    exact ⟨v, h1, h2.keep (eq i) fun _ _ h => h⟩, E.out, E.dis, E.free, fun b x e => k b x (E.sub b x e), E.len⟩
theorem Stp.more {P0 P : Fp} {H0 F0 H H' F : Hp} (s : Stp P0 H0 F0 P H F) (k : ∀ b o, H b = some o → H' b = some o) : Stp P0 H0 F0 P H' F :=
  s.trans ⟨fun a x e _ => k a x e, fun _ _ h => h, fun _ h => .inl h, fun _ h => .inl h, fun _ h => .inl h, fun _ _ h => h⟩
/-- what is known of an exception class that may be made -/
structure MkX (X : Cx) (k : Nat) (nm : Str) (C : Addr) (fl : List Str) (ie : IE) : Prop where
  oex : OexC X.K C
  mg : X.mg nm = some (.ref C)
  cn : ClsNm X.K C nm
  nf : ∀ f ∈ fl, PySem.W.findIn X.K (.ref C) f = some none
  init : ∃ fI fd ps l, PySem.W.findIn X.K (.ref C) "__init__" = some (some (.ref fI)) ∧ PySem.W.typeIn X.K (.ref fI) = some (.type "function") ∧ l.map (·.1) = fl ∧ FnOk X.prog X.w X.K X.mg X.base (L2.CX X.prog X.w) k fI fd ps (spInit C l ie) ∧ Binds X.K fd ps []
section
variable {X : Cx} {W : WX} {fx : Nat → Bool} {ms : Env → Out (List R)} {x : Str} {C : Addr} {fl : List Str} {ie : IE} {k : Nat} {e : Expr} {es : List Expr} {p pos pos2 : Pos}
theorem zip_mem {α β : Type} {a : α} {b : β} {l : List α} {m : List β} (h : (a, b) ∈ l.zip m) : a ∈ l := (List.of_mem_zip h).1
theorem ss_raiseX (hc : X.calm = true) (tk : Takes X W) (M : MkX X k x C fl ie) (hr : Room (k + 1) X.A) (hg : Gl X x) (hdb : (x == ("__debug__" : Str)) = false) (ha : PA X (e :: es) (tA X.K W ms)) (he : starEach (e :: es) X.env = (false, eval e X.env) :: starEach es X.env) (hpl : (backTo pos (starEach es X.env)).any (·.1) = false) (hl : fl.length ≤ 900) :
    PS X (.Raise (some (.Call (.Name x p) (e :: es) [] pos)) none pos2) (tS X.K W fx fun env => (ms env).bind fun rs e1 => match valsR rs with | some ts => raiseR x fl ie ts e1 | none => .stuck) := by
  obtain ⟨fI, fd, ps, l, i1, i2, i3, i4, i5⟩ := M.init
  refine ps_imp (ps_raise hc tk (pmk_oex M.oex i1 i2 i4 hr i5 .nil (passes_call tk fun _ _ _ _ z => z.elim) hg M.mg ha hdb he hpl)) fun D σ H ⟨env, F, fp, E, q⟩ => ?_
  refine tA_st E Stp.refl Fix.refl q fun rs e1 H1 F1 fp1 vs lt E1 s1 rr tm q1 => ?_
  cases ev : valsR rs with
  | none => rw [ev] at q1; exact q1.elim
  | some ts =>
    rw [ev] at q1
    simp only at q1
    unfold raiseR at q1
    split at q1
    · rename_i hk
      simp only [Bool.and_eq_true, decide_eq_true_eq] at hk
      obtain ⟨k1, k2, k3⟩ := hk
      obtain ⟨us, hus⟩ := Option.isSome_iff_exists.mp k1
      have evs : vs = us := den_lvs (vals_den rr ev) hus
      subst evs
      have hlen : vs.length = fl.length := by rw [lvs_len hus, k2]
      refine ⟨by omega, fun a ha1 => ⟨a, ts, vs, by simp, hus, by rw [k2, ← i3, List.length_map], k3, upd_same, fun d H2 hd1 hda ha2 hd2 kp => ⟨rfl, d, _, ha2, hd2, by rwa [upd_ne hda] at hd1, ?_⟩⟩⟩
      have hd0 : H1 d = none := by rwa [upd_ne hda] at hd1
      have kk : ∀ b o, H1 b = some o → upd (L2.del H2 a) d (.xd (((l.map (·.1)).zip vs).reverse)) b = some o := fun b o hb => by
        have hba : b ≠ a := fun z => by rw [z, ha1] at hb; cases hb
        have hbd : b ≠ d := fun z => by rw [z, hd0] at hb; cases hb
        rw [upd_ne hbd, del_ne hba]
        exact kp b o hba (by rw [upd_ne hba]; exact hb)
      refine q1 (.ref C) (some d) σ _ F1 fp1 (E1.more kk) (s1.more kk) Fix.refl ⟨C, d, _, rfl, M.cn, rfl, ?_, upd_same, fun p hp => ?_⟩
      · rw [i3]; exact lvk_rev (lvk_zip hus k2)
      · rw [List.mem_reverse] at hp
        exact M.nf _ (zip_mem (b := p.2) hp)
    · exact q1.elim
end
end G
namespace G
open PySem PySem.Spec PyProof.Rows L2

/-! # plain objects: fields -/
section
variable {K : PySem.W.Frag} {F : Hp}
theorem fldK_val : ∀ {vs : List (Str × V)} {kts : List (Key × T)} {f : Str} {t : T}, DenKV K F (fldK vs) kts → valT kts (.inr f) = some t → ∃ v, vs.lookup f = some v ∧ Den K F v t
  | [], kts, f, t, d, e => by
    cases d
    simp [valT] at e
  | p :: vs, kts, f, t, d, e => by
    cases d with
    | @cons k' v' _ t' ts h d =>
      simp only [valT, List.find?_cons] at e
      by_cases hp : p.1 = f
      · have : decide ((Sum.inr p.1 : Key) = Sum.inr f) = true := by simp [hp]
        rw [this] at e
        simp at e
        subst e
        exact ⟨p.2, by simp [List.lookup, hp], h⟩
      · have : decide ((Sum.inr p.1 : Key) = Sum.inr f) = false := decide_eq_false fun z => hp (Sum.inr.inj z)
        rw [this] at e
        obtain ⟨v, q1, q2⟩ := fldK_val d e
        have hf : (f == p.1) = false := by simpa using fun z => hp z.symm
        exact ⟨v, by simp [List.lookup, hf, q1], q2⟩
theorem fldK_none : ∀ {vs : List (Str × V)} {kts : List (Key × T)} {f : Str}, DenKV K F (fldK vs) kts → valT kts (.inr f) = none → vs.lookup f = none
  | [], kts, f, d, e => rfl
  | p :: vs, kts, f, d, e => by
    cases d with
    | @cons k' v' _ t' ts h d =>
      simp only [valT, List.find?_cons] at e
      by_cases hp : p.1 = f
      · have : decide ((Sum.inr p.1 : Key) = Sum.inr f) = true := by simp [hp]
        rw [this] at e
        simp at e
      · have : decide ((Sum.inr p.1 : Key) = Sum.inr f) = false := decide_eq_false fun z => hp (Sum.inr.inj z)
        rw [this] at e
        have hf : (f == p.1) = false := by simpa using fun z => hp z.symm
        simp [List.lookup, hf, fldK_none d e]
theorem fldK_len : ∀ {vs : List (Str × V)} {kts : List (Key × T)}, DenKV K F (fldK vs) kts → vs.length = kts.length
  | [], kts, d => by cases d; rfl
  | p :: vs, kts, d => by
    cases d with
    | cons h d => simp [fldK_len d]
theorem fldK_put : ∀ {vs : List (Str × V)} {kts : List (Key × T)} {f : Str} {v : V} {t : T}, DenKV K F (fldK vs) kts → Den K F v t → DenKV K F (fldK (putF f v vs)) (putO (.inr f) t kts)
  | [], kts, f, v, t, d, h => by
    cases d
    exact .cons h .nil
  | p :: vs, kts, f, v, t, d, h => by
    cases d with
    | @cons k' v' _ t' ts h0 d =>
      obtain ⟨g, x⟩ := p
      by_cases hp : g = f
      · subst hp
        have e : putF g v ((g, x) :: vs) = (g, v) :: vs := by simp [putF]
        have e2 : putO (.inr g) t ((.inr g, t') :: ts) = (.inr g, t) :: ts := by simp [putO]
        rw [e]
        show DenKV K F ((.inr g, v) :: fldK vs) (putO (.inr g) t ((.inr g, t') :: ts))
        rw [e2]
        exact .cons h d
      · have e : putF f v ((g, x) :: vs) = (g, x) :: putF f v vs := by simp [putF, hp]
        have e2 : putO (.inr f) t ((.inr g, t') :: ts) = (.inr g, t') :: putO (.inr f) t ts := by simp [putO, hp]
        rw [e]
        show DenKV K F ((.inr g, x) :: fldK (putF f v vs)) (putO (.inr f) t ((.inr g, t') :: ts))
        rw [e2]
        exact .cons h0 (fldK_put d h)
end
/-- an object, as it stands in the world -/
theorem VR.objI {K : PySem.W.Frag} {H F : Hp} {v : V} {nm : Str} {kts : List (Key × T)} (h : VR K H F v (.obj nm kts)) (s : Same F H) : ∃ a C dx vs, v = .ref a ∧ H a = some (.ins C dx vs) ∧ ClsNm K C nm ∧ DenKV K F (fldK vs) kts := by
  cases h with
  | fz d => cases d with | obj e c d => exact ⟨_, _, _, _, rfl, s _ _ e, c, d⟩
  | obj e c d => exact ⟨_, _, _, _, rfl, e, c, d⟩
section
variable {X : Cx} {W : WX} {e : Expr} {me : Env → Out R} {f : Str} {ns : List Str} {pos pos' : Pos}
/-- the classes ns have the field f -/
def HasFld (K : PySem.W.Frag) (f : Str) (ns : List Str) : Prop := ∀ nm ∈ ns, ∀ C, ClsNm K C nm → Cls K C ∧ NoAttr K C f
theorem se_fld (hf : HasFld X.K f ns) (he : PE X e (tE X.K W me)) (hb : attributeBase e f X.env (eval e X.env) = eval e X.env) : PE X (.Attribute e f pos) (tE X.K W fun env => (me env).bind fun r e1 => match lookT e1 r with
    | some (.obj nm kvs) => if ns.contains nm = true then ofO ((valT kvs (.inr f)).map R.val) e1 else .stuck
    | _ => .stuck) := by
  refine pe_imp (pe_fld he hb) fun σ H Q ⟨env, F, fp, E, q⟩ => ?_
  refine tE_intro E Stp.refl q fun r e1 H1 F1 fp1 v l E1 s1 rr tm q1 => ?_
  split at q1
  · rename_i nm kvs hl
    split at q1
    · rename_i hn
      obtain ⟨r', er, q2⟩ := ofO_asks q1
      obtain ⟨t, et, rfl⟩ := Option.map_eq_some_iff.mp er
      obtain ⟨a, C, dx, vs, rfl, ea, hc, d⟩ := (rr.vr E1 hl).objI E1.sub
      obtain ⟨w, g1, g2⟩ := fldK_val d et
      obtain ⟨c1, c2⟩ := hf nm (by simpa using hn) C hc
      exact ⟨a, C, dx, vs, w, rfl, ea, c1, c2, g1, q2 H1 F1 fp1 E1 s1 w [] (.val g2) .nil⟩
    · exact q1.elim
  · exact q1.elim
theorem obj_own {K : PySem.W.Frag} {σ : L2.St} {env : Env} {H F : Hp} {fp : Nat → List Addr} {i : Nat} {nm : Str} {kts : List (Key × T)} (E : EnvR K env σ H F fp) (h : env[i]? = some (some (.own (.obj nm kts)))) : ∃ a C dx vs, σ[i]? = some (some (.ref a)) ∧ H a = some (.ins C dx vs) ∧ ClsNm K C nm ∧ DenKV K F (fldK vs) kts ∧ fp i = [a] := by
  obtain ⟨v, e1, r⟩ := E.slot i _ h
  generalize fp i = l at r
  cases r with
  | own r => cases r with | obj h1 h2 h3 => exact ⟨_, _, _, _, e1, h1, h2, h3, rfl⟩
/-- self.f = e -/
theorem ss_fset {i : Nat} {x : Str} {p : Pos} {fx : Nat → Bool} (hf : HasFld X.K f ns) (ho : X.N[i]? = some x) (hv : Vis X.env.scope x) (hd1 : (x == ("__debug__" : Str)) = false) (hd2 : (x == ("__classdict__" : Str)) = false) (he : PE X e (tE X.K W me)) (hs : swapsWith e (some (.Attribute (.Name x p) f pos')) pos.line X.env = pure false) :
    PS X (.Assign [.Attribute (.Name x p) f pos'] e pos) (tS X.K W fx fun env => (me env).bind fun r e1 => match esc e1 r with | some t => fsetR i f ns t e1 | none => .stuck) := by
  refine ps_imp (ps_fld (pe_var ho hv hd1 hd2) he hs) fun D σ H ⟨env, F, fp, E, q⟩ => ?_
  refine tE_st E Stp.refl Fix.refl q fun r e1 H1 F1 fp1 v l E1 s1 rr tm q1 => ?_
  split at q1
  · rename_i t ht
    obtain ⟨F2, sF, d2, E2, s2, _⟩ := esc_ok rr E1 tm s1 ht
    unfold fsetR at q1
    split at q1
    · rename_i nm kvs hxs
      split at q1
      · rename_i hz
        obtain ⟨a, C, dx, vs, g1, g2, g3, g4, g5⟩ := obj_own E2 hxs
        obtain ⟨c1, c2⟩ := hf nm (by simpa using hz.1) C g3
        refine ⟨.ref a, g1, a, C, dx, vs, rfl, g2, c1, c2, by rw [fldK_len g4]; have := hz.2; omega, ?_⟩
        obtain ⟨E4, s4⟩ := E2.write (o' := .obj nm (putO (.inr f) t kvs)) (ob := .ins C dx (putF f v vs)) hxs g1 (.obj upd_same g3 (fldK_put g4 d2))
        exact q1 σ _ F2 fp1 E4 (s2.trans s4) Fix.refl
      · exact q1.elim
    · exact q1.elim
  · exact q1.elim
end
/-! # methods -/
section
variable {gq : Bool} {X : Cx} {W : WX} {C : Nat → List Iv → Res} {k : Nat} {o : Expr} {m : Str} {ms : List (Str × Nat)} {mo : Env → Out R} {ma : Env → Out (List R)} {apos pos : Pos} {dflOf : Nat → List T}
/-- a def that stands behind a method's name -/
structure MethOk (gq : Bool) (X : Cx) (C : Nat → List Iv → Res) (k : Nat) (m : Str) (nm : Str) (i : Nat) (dfl : List T) : Prop where
  ex : ∀ Ca, ClsNm X.K Ca nm → Cls X.K Ca ∧ ∃ f fd ps dvs ds, Meth X.K Ca m f ∧ FnG gq X.prog X.w X.K X.mg X.base k f fd ps (spF X.K (C i)) ∧ Vals dvs ds ∧ (∀ F, DenAll X.K F dvs dfl) ∧ Binds X.K fd ps ds
theorem methOf_some {m : Str} {ms : List (Str × Nat)} {t : Option T} {i : Nat} (h : methOf m ms t = some i) : ∃ nm kvs, t = some (.obj nm kvs) ∧ valT kvs (.inr m) = none ∧ ms.lookup nm = some i := by
  unfold methOf at h
  split at h
  · rename_i nm kvs
    split at h
    · rename_i hn
      exact ⟨nm, kvs, rfl, by simpa using hn, h⟩
    · cases h
  · cases h
/-- what is asked of the object and of the arguments -/
def MethQ (gq : Bool) (X : Cx) (W : WX) (C : Nat → List Iv → Res) (k : Nat) (m : Str) (ma : Env → Out (List R)) (σ : L2.St) (Q : VK) (v : V) (H1 : Hp) : Prop :=
  ∃ (a Ca dx : Addr) (vs : List (Str × V)) (f : Addr) (fd : FuncData) (ps : List Str) (dvs : List V) (ds : List Value) (i : Nat), v = .ref a ∧ H1 a = some (.ins Ca dx vs) ∧ vs.lookup m = none ∧ Cls X.K Ca ∧ Meth X.K Ca m f ∧
    FnG gq X.prog X.w X.K X.mg X.base k f fd ps (spF X.K (C i)) ∧ Vals dvs ds ∧ Binds X.K fd ps ds ∧ tA X.K W ma σ H1 fun ws H2 => spF X.K (C i) ((v :: ws) ++ dvs) H2 Q fun cls d H' => W cls d σ H'
theorem meth_q {σ : L2.St} {H : Hp} {Q : VK} (hm : ∀ nm i, ms.lookup nm = some i → MethOk gq X C k m nm i (dflOf i)) (h : tE X.K W (fun env => (mo env).bind fun r e1 => match methOf m ms (lookT e1 r) with
    | some f => (ma e1).bind fun rs e2 => callR C f (dflOf f) e2 (r :: rs)
    | none => .stuck) σ H Q) : tE X.K W mo σ H (MethQ gq X W C k m ma σ Q) := by
  obtain ⟨env, F, fp, E, q⟩ := h
  refine tE_intro E Stp.refl q fun r e1 H1 F1 fp1 v l E1 s1 rr tm q1 => ?_
  split at q1
  · rename_i i hi
    obtain ⟨nm, kvs, hl, hno, hlk⟩ := methOf_some hi
    obtain ⟨a, Ca, dx, vs, rfl, ea, hc, d⟩ := (rr.vr E1 hl).objI E1.sub
    obtain ⟨hcl, f, fd, ps, dvs, ds, hme, hfn, hv, hdd, hb⟩ := (hm nm i hlk).ex Ca hc
    refine ⟨a, Ca, dx, vs, f, fd, ps, dvs, ds, i, rfl, ea, fldK_none d hno, hcl, hme, hfn, hv, hb, ?_⟩
    refine tA_intro E1 s1 q1 fun rs e2 H2 F2 fp2 ws ls E2 s2 rs2 t2 q2 => ?_
    refine call_sp E2 (s1.trans s2) (.cons (rr.step tm s2) rs2 fun x hx hx' => ?_) (fun x hx => ?_) (hdd F2) q2
    · rcases (t2 x hx').2.2 with z | z
      · exact (tm x hx).2.1 ((fpOf e1 fp1).sub x z)
      · exact rr.here x hx z
    · rcases List.mem_append.mp hx with hx | hx
      · exact (tm.step s2 rr.here) x hx
      · exact (t2.base s1) x hx
  · exact q1.elim
theorem se_meth {e : Expr} {es : List Expr} {pl : Sem Bool} (hm : ∀ nm i, ms.lookup nm = some i → MethOk gq X C k m nm i (dflOf i)) (hr : Room k X.A) (hgd : gq = true → X.A.guards = some []) (tk : Takes X W) (ho : PE X o (tE X.K W mo)) (ha : PA X (e :: es) (tA X.K W ma)) (hns : noStar (e :: es) = true)
    (ht : eval (.Call (.Attribute o m apos) (e :: es) [] pos) X.env = (do
      let ov ← eval o X.env
      standAt apos.atName
      let (f, first) ← holding [ov] (getMethod ov m pl)
      callWith pos f first (backTo pos (starEach (e :: es) X.env)) (backToKw pos (keywordEach [] X.env)))) :
    PE X (.Call (.Attribute o m apos) (e :: es) [] pos) (tE X.K W fun env => (mo env).bind fun r e1 => match methOf m ms (lookT e1 r) with
    | some f => (ma e1).bind fun rs e2 => callR C f (dflOf f) e2 (r :: rs)
    | none => .stuck) := by
  refine ⟨fun pins s σ H Q I h => ?_⟩
  have h2 : noStarE e = true ∧ noStar es = true := by simpa [noStar] using hns
  refine PySem.W.methodCall_KW (pl := pl) (thn (ho.run pins s σ H _ I (meth_q hm h)) fun u s1 ⟨x, H1, I1, rx, a, Ca, dx, vs, f, fd, ps, dvs, ds, i, ex, ea, l, c, hme, F, hv, hb, q⟩ => ?_) ht
  subst ex
  obtain rfl : u = Value.ref a := rx
  refine getmeth_ok I1 ea c hme l ?_
  refine PySem.W.callWith_K (first := [.ref a]) (h₀ := X.base) I.ok.mod.kin hme.kp (thn (ha.run pos pins s1 σ H1 _ I1 q) fun us s2 ⟨ws, H2, I2, r, q2⟩ => ⟨I2.kIn, ?_⟩) (star_cons h2.1) (star_any h2.2)
  exact run_g (us := .ref a :: us) (vs := .ref a :: ws) F hr hgd hb hv tk I2 (.cons rfl r) q2
theorem se_meth0 {pl : Sem Bool} (hm : ∀ nm i, ms.lookup nm = some i → MethOk gq X C k m nm i (dflOf i)) (hr : Room k X.A) (hgd : gq = true → X.A.guards = some []) (tk : Takes X W) (ho : PE X o (tE X.K W mo))
    (ht : eval (.Call (.Attribute o m apos) [] [] pos) X.env = (do
      let ov ← eval o X.env
      standAt apos.atName
      let (f, first) ← holding [ov] (getMethod ov m pl)
      callWith pos f first (backTo pos (starEach [] X.env)) (backToKw pos (keywordEach [] X.env)))) :
    PE X (.Call (.Attribute o m apos) [] [] pos) (tE X.K W fun env => (mo env).bind fun r e1 => match methOf m ms (lookT e1 r) with
    | some f => (Out.ok [] e1).bind fun rs e2 => callR C f (dflOf f) e2 (r :: rs)
    | none => .stuck) := by
  refine ⟨fun pins s σ H Q I h => ?_⟩
  refine PySem.W.methodCall_KW (pl := pl) (thn (ho.run pins s σ H _ I (meth_q (ma := fun env => .ok [] env) hm h)) fun u s1 ⟨x, H1, I1, rx, a, Ca, dx, vs, f, fd, ps, dvs, ds, i, ex, ea, l, c, hme, F, hv, hb, q⟩ => ?_) ht
  subst ex
  obtain rfl : u = Value.ref a := rx
  refine getmeth_ok I1 ea c hme l ?_
  refine PySem.W.callWith_K0 (first := [.ref a]) I1.kIn hme.kp ?_
  obtain ⟨env', F', fp', E', q'⟩ := q
  have q2 := q' H1 F' fp' E' Stp.refl [] [] .nil .nil
  exact run_g (us := [.ref a]) (vs := [.ref a]) F hr hgd hb hv tk I1 (.cons rfl .nil) q2
end
end G
namespace G
open PySem PySem.Spec PyProof.Rows L2

/-! # an object made -/
theorem meth_ev {o : Expr} {m : Str} {apos pos : Pos} {args : List Expr} {env : PySem.Env} (hb : noCall0 o = true) (hs : noStar args = true) (hl : args.length < 30) (hq : (apos.endLine == pos.line) = true) : ∃ pl : Sem Bool, eval (.Call (.Attribute o m apos) args [] pos) env = (do
      let ov ← eval o env
      standAt apos.atName
      let (f, first) ← holding [ov] (getMethod ov m pl)
      callWith pos f first (backTo pos (starEach args env)) (backToKw pos (keywordEach [] env))) := by
  have form : methodCallForm (args.length + ([] : List Keyword).length) (backTo pos (starEach args env)) (backToKw pos (keywordEach [] env)) = true := by
    unfold methodCallForm
    rw [star_all hs, Bool.true_and]
    refine Bool.and_eq_true_iff.mpr ⟨rfl, ?_⟩
    show decide (args.length + 0 + 0 < 30) = true
    simpa using hl
  have mp : methodCallPos true o env apos pos = pure pos := by
    unfold methodCallPos
    rw [if_pos (by rw [hq]; rfl)]
  refine ⟨(do return (← importBound o env).getD true), ?_⟩
  have mc : ∀ ov, methodCall o m apos pos env ov (args.length + ([] : List Keyword).length) (backTo pos (starEach args env)) (backToKw pos (keywordEach [] env)) = (do
      let (f, first) ← holding [ov] (getMethod ov m (do return (← importBound o env).getD true))
      callWith pos f first (backTo pos (starEach args env)) (backToKw pos (keywordEach [] env))) := fun ov => by
    unfold methodCall
    rw [form]
    unfold calleeOf
    simp only [if_true, mp, pure_bind]
  have h1 : eval (.Call (.Attribute o m apos) args [] pos) env = (do
      let ov ← attributeBase o m env (eval o env)
      standAt apos.atName
      methodCall o m apos pos env ov (args.length + ([] : List Keyword).length) (backTo pos (starEach args env)) (backToKw pos (keywordEach [] env))) := rfl
  rw [h1, base_of hb]
  simp only [mc]
theorem make_guards {A : Around} {C : Addr} {us : List Value} {kw : List (Str × Value)} (h : A.guards = some []) : (A.under (.builtin "type.__call__" ⟨.ref C :: us, kw⟩)).guards = some [] := by
  have e : (Code.builtin "type.__call__" ⟨.ref C :: us, kw⟩).guards = [] := by
    first | rfl | simp [Code.guards, Code.isGuard, guardIds]
  unfold Around.under
  simp only [e, h]
  rfl
section
variable {gq : Bool} {X : Cx} {W : WX} {k : Nat}
theorem run_make_g {pins : List (Addr × Obj)} {σ : L2.St} {H : Hp} {s : Shared} {Q : VK} {us : List Value} {vs dvs : List V} {ds : List Value} {Cc f : Addr} {fd : FuncData} {ps : List Str} {sp : Sp} (M : Mk X.K Cc f) (F : FnG gq X.prog X.w X.K X.mg X.base k f fd ps sp) (hr : Room (k + 1) X.A) (hgd : gq = true → X.A.guards = some []) (hb : Binds X.K fd ps ds) (hd : Vals dvs ds)
    (tk : Takes X W) (I : Inv X pins σ H s) (r : Vals vs us)
    (h : ∀ x dx, H x = none → H dx = none → dx ≠ x → sp (.ref x :: (vs ++ dvs)) (upd (upd H dx (.own x)) x (.ins Cc dx [])) (fun v H2 => v = .non ∧ Q (.ref x) H2) fun cls d H' => W cls d σ H') :
    wpAny (model X.prog X.w) X.A (call (.ref Cc) us) (EP X pins σ Q) X.xe s := by
  have hq := h (s.heap.objs.size + 1) s.heap.objs.size (I.hok.fresh (Nat.le_succ _)) (I.hok.fresh (Nat.le_refl _)) (Nat.ne_of_lt (Nat.lt_succ_self _))
  have I2 := Inv.made (C := Cc) I
  have r2 : Vals (V.ref (s.heap.objs.size + 1) :: (vs ++ dvs)) (Value.ref (s.heap.objs.size + 1) :: (us ++ ds)) := .cons rfl (r.append hd)
  have hl : (Value.ref (s.heap.objs.size + 1) :: us ++ ds).length = ps.length := by
    have e := r2.length
    rw [F.len _ _ _ _ hq] at e
    exact e.symm
  refine wpAny_call (make_map (f := f) I.kIn M.makes M.init (beq_iff_eq.mp M.fn) (codeAny_mono (F.run _ X.stack _ _ ⟨Value.ref (s.heap.objs.size + 1) :: us, []⟩ (Value.ref (s.heap.objs.size + 1) :: (us ++ ds)) _ _ _ (hr.make Cc us []) (fun q => make_guards (hgd q))
    (I2.env0.make Cc us []) (hb _ (Value.ref (s.heap.objs.size + 1) :: us) I2.kIn hl) r2 hq) fun r s' hq' => ?_))
  cases r with
  | error e => exact tk e s' (XE.of_call I2 (fun _ _ _ q => q) hq')
  | ok fl =>
    cases fl with
    | ret u =>
      obtain ⟨v, H', I3, rv, ev, q3⟩ := I2.after hq'
      subst ev
      exact ⟨rv, ⟨V.ref (s.heap.objs.size + 1), H', I3, rfl, q3⟩⟩
    | next => exact False.elim hq'
    | brk => exact False.elim hq'
    | cont => exact False.elim hq'
end
section
variable {K : PySem.W.Frag} {σ : L2.St} {env : Env} {H F H' F' : Hp} {fp : Nat → List Addr}
theorem AR.keep {vs : List V} {ivs : List Iv} {ls : List (List Addr)} (h : AR K H F vs ivs ls) (k : ∀ l ∈ ls, ∀ a ∈ l, H' a = H a) : AR K H' F vs ivs ls := by
  induction h with
  | nil => exact .nil
  | cons r _ d ih => exact .cons (r.keep (k _ List.mem_cons_self) fun _ _ h => h) (ih fun l hl => k l (List.mem_cons_of_mem _ hl)) d
/-- without the first slot -/
theorem EnvR.tail {x : Option Iv} {v : Option V} {env : Env} {σ : L2.St} (E : EnvR K (x :: env) (v :: σ) H F fp) : EnvR K env σ H F fun j => fp (j + 1) :=
  ⟨fun i iv e => E.slot (i + 1) iv (by simpa using e), fun i h => E.out (i + 1) fun iv e => h iv (by simpa using e), fun i j a ha hb => by have := E.dis (i + 1) (j + 1) a ha hb; omega, fun i a ha => E.free (i + 1) a ha, E.sub, by have := E.len; simpa using this⟩
/-- .. the step over a call whose first argument was made for it -/
theorem Stp.tail {x dx Cc : Addr} {iv iv' : Iv} {ivs outs : List Iv} {fp0 fp' : Nat → List Addr} (hx : H x = none) (hdx : H dx = none) (h0 : fp0 0 = [x])
    (t : Stp (fpOf (some iv :: ivs.map some) fp0) (upd (upd H dx (.own x)) x (.ins Cc dx [])) F (fpOf (some iv' :: outs.map some) fp') H' F') : Stp (fpOf (ivs.map some) fun j => fp0 (j + 1)) H F (fpOf (outs.map some) fun j => fp' (j + 1)) H' F' := by
  have ow : ∀ a, (fpOf (some iv :: ivs.map some) fp0).own a → a = x ∨ (fpOf (ivs.map some) fun j => fp0 (j + 1)).own a := by
    rintro a ⟨j, o, ej, hj⟩
    cases j with
    | zero => rw [h0] at hj; simp at hj; exact .inl hj
    | succ j => exact .inr ⟨j, o, by simpa using ej, hj⟩
  have no : ∀ a, (upd (upd H dx (.own x)) x (.ins Cc dx [])) a = none → H a = none := fun a h => by
    by_cases ha : a = x
    · rw [ha]; exact hx
    · rw [upd_ne ha] at h
      by_cases hb : a = dx
      · rw [hb]; exact hdx
      · rwa [upd_ne hb] at h
  refine ⟨fun a o e hn => ?_, t.fz, fun a h => ?_, fun a h => ?_, fun a h => ?_, fun i a h => ?_⟩
  · have ha : a ≠ x := fun z => by rw [z, hx] at e; cases e
    have hb : a ≠ dx := fun z => by rw [z, hdx] at e; cases e
    refine t.keep a o (by rw [upd_ne ha, upd_ne hb]; exact e) fun z => ?_
    rcases ow a z with z | z
    · exact ha z
    · exact hn z
  · rcases t.nfz a h with z | z | z
    · exact .inl z
    · rcases ow a z with z | z
      · right; right; rw [z]; exact hx
      · exact .inr (.inl z)
    · exact .inr (.inr (no a z))
  · obtain ⟨j, o, ej, hj⟩ := h
    rcases t.own a ⟨j + 1, o, by simpa using ej, hj⟩ with z | z
    · rcases ow a z with z | z
      · right; rw [z]; exact hx
      · exact .inl z
    · exact .inr (no a z)
  · obtain ⟨j, hj⟩ := h
    rcases t.all a ⟨j + 1, hj⟩ with ⟨i, z⟩ | z
    · cases i with
      | zero => rw [h0] at z; simp at z; right; rw [z]; exact hx
      | succ i => exact .inl ⟨i, z⟩
    · exact .inr (no a z)
  · obtain ⟨o, ej, hj⟩ := h
    obtain ⟨o', ej', hj'⟩ := t.lk (i + 1) a ⟨o, by simpa using ej, hj⟩
    exact ⟨o', by simpa using ej', hj'⟩
end
section
variable {C : Nat → List Iv → Res} {fi : Nat}
/-- the meaning of a making, in the worlds -/
theorem make_sp {K : PySem.W.Frag} {W : WX} {σ : L2.St} {env : Env} {H F H0 F0 : Hp} {fp : Nat → List Addr} {P0 : Fp} {rs : List R} {vs dvs : List V} {l : List Addr} {dfl : List T} {Q : VK} {c : Str} {Cc x dx : Addr}
    (hx : H x = none) (hdx : H dx = none) (hne : dx ≠ x) (hc : ClsNm K Cc c) (E : EnvR K env σ H F fp) (s : Stp P0 H0 F0 (fpOf env fp) H F) (rr : RRs K σ H F rs vs l) (tm : Tmp H0 P0 F (fpOf env fp) l) (dd : DenAll K F dvs dfl)
    (q : (makeR C fi dfl c env rs).asks K W σ H0 F0 P0 (Ask K σ H0 P0 Q)) : spF K (C fi) (.ref x :: (vs ++ dvs)) (upd (upd H dx (.own x)) x (.ins Cc dx [])) (fun v H2 => v = .non ∧ Q (.ref x) H2) fun cls d H' => W cls d σ H' := by
  unfold makeR at q
  cases e1 : argsOf env rs with
  | none => rw [e1] at q; exact q.elim
  | some ivs =>
    rw [e1] at q
    simp only at q
    split at q
    · rename_i nd
      obtain ⟨ls, ar, cl, cl2⟩ := args_ok E rr (fun a ha => (tm a ha).2.1) e1 nd
      have hF : ∀ lj ∈ ls, ∀ a ∈ lj, F a = none := fun lj hlj a ha => by
        rcases cl2 lj hlj with z | ⟨i, _, rfl⟩
        · exact (tm a (z a ha)).1
        · exact E.free i a ha
      have hH : ∀ lj ∈ ls, ∀ a ∈ lj, H a ≠ none := fun lj hlj a ha => by
        rcases cl2 lj hlj with z | ⟨i, _, rfl⟩
        · exact rr.here a (z a ha)
        · exact E.here i a ha
      have hls : ∀ lj ∈ ls ++ dfl.map fun _ => [], ∀ a ∈ lj, F a = none ∧ H a ≠ none := fun lj hlj a ha => by
        rcases List.mem_append.mp hlj with hlj | hlj
        · exact ⟨hF lj hlj a ha, hH lj hlj a ha⟩
        · obtain ⟨_, _, rfl⟩ := List.mem_map.mp hlj
          simp at ha
      have hFx : F x = none := E.freeF hx
      have hsub : Same F (upd (upd H dx (.own x)) x (.ins Cc dx [])) := fun a o e => by
        have h1 := E.sub a o e
        have ha : a ≠ x := fun z => by rw [z, hx] at h1; cases h1
        have hb : a ≠ dx := fun z => by rw [z, hdx] at h1; cases h1
        rw [upd_ne ha, upd_ne hb]; exact h1
      have nx : ∀ lj ∈ ls ++ dfl.map fun _ => [], ∀ a ∈ lj, a ≠ x ∧ a ≠ dx := fun lj hlj a ha => by
        have := (hls lj hlj a ha).2
        exact ⟨fun z => this (by rw [z]; exact hx), fun z => this (by rw [z]; exact hdx)⟩
      have ar2 : AR K (upd (upd H dx (.own x)) x (.ins Cc dx [])) F (.ref x :: (vs ++ dvs)) (.own (.obj c []) :: (ivs ++ dfl.map Iv.val)) ([x] :: (ls ++ dfl.map fun _ => [])) :=
        .cons (.own (.obj (vs := []) upd_same hc .nil)) ((ar.append dd).keep fun lj hlj a ha => by rw [upd_ne (nx lj hlj a ha).1, upd_ne (nx lj hlj a ha).2]) fun a ha l' hl' hm => by
          simp at ha
          exact (nx l' hl' a hm).1 ha
      refine ⟨.own (.obj c []) :: (ivs ++ dfl.map Iv.val), F, _, ar2.toEnv hsub fun lj hlj a ha => ?_, ?_⟩
      · rcases List.mem_cons.mp hlj with rfl | hlj
        · simp at ha; rw [ha]; exact hFx
        · exact (hls lj hlj a ha).1
      · have base : ∀ {outs : List Iv} {iv : Iv} {H' F' : Hp} {fp' : Nat → List Addr}, EnvR K ((iv :: outs).map some) ((V.ref x :: (vs ++ dvs)).map some) H' F' fp' →
            Stp (fpOf ((.own (.obj c []) :: (ivs ++ dfl.map Iv.val)).map some) fun j => (([x] :: (ls ++ dfl.map fun _ => []))[j]?).getD []) (upd (upd H dx (.own x)) x (.ins Cc dx [])) F (fpOf ((iv :: outs).map some) fp') H' F' → _ := fun {outs iv H' F' fp'} E' t =>
          call_back E s rr tm e1 nd ar cl (dfl := dfl) (outs := outs) E'.tail (Stp.tail (iv := .own (.obj c [])) (iv' := iv) (ivs := ivs ++ dfl.map Iv.val) (outs := outs) hx hdx rfl t)
        rw [List.cons_append] at q
        cases ec : C fi (.own (.obj c []) :: (ivs ++ dfl.map Iv.val)) with
        | stuck => rw [ec] at q; exact q.elim
        | exc z outs =>
          rw [ec] at q
          cases outs with
          | nil => exact q.elim
          | cons iv outs =>
            intro cls d H' F' fp' E' t xr
            obtain ⟨hE, hS, _⟩ := base E' t
            exact q cls d H' F' _ hE hS xr
        | ok r outs =>
          rw [ec] at q
          split at q
          · rename_i o outs' heq
            cases heq
            intro H' F' fp' E' t v l' iv tl
            obtain ⟨hE, hS, hT⟩ := base E' t
            cases iv with
            | val d =>
            cases d
            refine ⟨rfl, ?_⟩
            obtain ⟨v0, g1, g2⟩ := E'.slot 0 (.own o) rfl
            cases g1
            have hl0 : ∀ a ∈ fp' 0, F' a = none ∧ (∀ j, a ∉ fp' (j + 1)) := fun a ha => ⟨E'.free 0 a ha, fun j hj => by have := E'.dis 0 (j + 1) a ha hj; omega⟩
            refine q H' F' _ hE hS (.ref x) (fp' 0) (by cases g2 with | own d => exact .new d) (hT _ fun a ha => ⟨(hl0 a ha).1, fun ⟨j, hj⟩ => (hl0 a ha).2 j hj, ?_⟩)
            rcases t.own a ⟨0, o, rfl, ha⟩ with ⟨j, o', ej, hj⟩ | z
            · cases j with
              | zero => simp at hj; right; rw [hj]; exact hx
              | succ j => exact .inl ⟨j, o', by simpa using ej, by simpa using hj⟩
            · right
              by_cases ha : a = x
              · rw [ha]; exact hx
              · rw [upd_ne ha] at z
                by_cases hb : a = dx
                · rw [hb]; exact hdx
                · rwa [upd_ne hb] at z
          · rename_i heq
            cases heq
          · exact q.elim
    · exact q.elim
end
section
variable {gq : Bool} {X : Cx} {W : WX} {C : Nat → List Iv → Res} {fi k : Nat} {c : Str} {Cc f : Addr} {fd : FuncData} {ps : List Str} {dvs : List V} {ds : List Value} {dfl : List T} {p pos : Pos} {ma : Env → Out (List R)}
theorem se_make {e : Expr} {es : List Expr} (M : Mk X.K Cc f) (F : FnG gq X.prog X.w X.K X.mg X.base k f fd ps (spF X.K (C fi))) (hr : Room (k + 1) X.A) (hgd : gq = true → X.A.guards = some []) (hg : Gl X c) (hm : X.mg c = some (.ref Cc)) (hc : ClsNm X.K Cc c) (hb : Binds X.K fd ps ds) (hd : Vals dvs ds) (hdd : ∀ F, DenAll X.K F dvs dfl)
    (tk : Takes X W) (ha : PA X (e :: es) (tA X.K W ma)) (hdb : (c == ("__debug__" : Str)) = false) (hns : noStar (e :: es) = true) :
    PE X (.Call (.Name c p) (e :: es) [] pos) (tE X.K W fun env => (ma env).bind fun rs e1 => makeR C fi dfl c e1 rs) := by
  refine ⟨fun pins s σ H Q I h => ?_⟩
  refine wpAny_Call_Name_kw (ld_glob I hg hm ?_ hdb)
  obtain ⟨env, F0, fp, E, q⟩ := h
  have t := tA_intro (Q := fun vs H1 => ∀ x dx, H1 x = none → H1 dx = none → dx ≠ x → spF X.K (C fi) (.ref x :: (vs ++ dvs)) (upd (upd H1 dx (.own x)) x (.ins Cc dx [])) (fun v H2 => v = .non ∧ Q (.ref x) H2) fun cls d H' => W cls d σ H') E Stp.refl q
    fun rs env2 H2 F2 fp2 vs l E2 s2 rr tm qq x dx hx hdx hne => make_sp hx hdx hne hc E2 s2 rr tm (hdd F2) qq
  have h2 : noStarE e = true ∧ noStar es = true := by simpa [noStar] using hns
  refine PySem.W.callWith_K (h₀ := X.base) I.ok.mod.kin M.kp (thn (ha.run pos pins s σ H _ I t) fun us s1 ⟨vs, H1, I1, r, q⟩ => ⟨I1.kIn, ?_⟩) (star_cons h2.1) (star_any h2.2)
  exact run_make_g M F hr hgd hb hd tk I1 r q
theorem se_make0 (M : Mk X.K Cc f) (F : FnG gq X.prog X.w X.K X.mg X.base k f fd ps (spF X.K (C fi))) (hr : Room (k + 1) X.A) (hgd : gq = true → X.A.guards = some []) (hg : Gl X c) (hm : X.mg c = some (.ref Cc)) (hc : ClsNm X.K Cc c) (hb : Binds X.K fd ps ds) (hd : Vals dvs ds) (hdd : ∀ F, DenAll X.K F dvs dfl)
    (tk : Takes X W) (hdb : (c == ("__debug__" : Str)) = false) :
    PE X (.Call (.Name c p) [] [] pos) (tE X.K W fun env => (Out.ok [] env).bind fun rs e1 => makeR C fi dfl c e1 rs) := by
  refine ⟨fun pins s σ H Q I h => ?_⟩
  refine wpAny_Call_Name_kw (ld_glob I hg hm ?_ hdb)
  obtain ⟨env, F0, fp, E, q⟩ := h
  exact PySem.W.callWith_K0 I.kIn M.kp (run_make_g (us := []) (vs := []) M F hr hgd hb hd tk I .nil fun x dx hx hdx hne => make_sp (vs := []) (l := []) hx hdx hne hc E Stp.refl .nil .nil (hdd F0) q)
end
end G
namespace G
open PySem PySem.Spec PyProof.Rows L2

/-! # an error handed to a def while it is handled -/
structure RoomH (k : Nat) (A : Around) : Prop where
  dp : A.depth + 3 * k + 5 < recursionLimit
  un : A.units + 16 * k + 200 < cLine
theorem RoomH.deeper {k : Nat} {A : Around} (r : RoomH (k + 1) A) (env : PySem.Env) : RoomH k (A.deeper env) :=
  ⟨by have := r.dp; show A.depth + 1 + 3 * k + 5 < _; omega, by have := r.un; show A.units + 3 + 16 * k + 200 < _; omega⟩
theorem RoomH.mono {j k : Nat} {A : Around} (r : RoomH k A) (h : j ≤ k) : RoomH j A := ⟨by have := r.dp; omega, by have := r.un; omega⟩
theorem roomH_of {k : Nat} {A : Around} (r : Room k A) : RoomH k A := ⟨r.dp, r.un⟩
def PinsOk (outer : List PySem.Env) (H : Hp) (s : Shared) (pn : List (Addr × Obj)) : Prop := ∀ p ∈ pn, s.heap.get? p.1 = some p.2 ∧ H p.1 = none ∧ p.1 ∉ frs outer ∧ ∀ v, p.2.data ≠ .cell v
theorem pins_ok {X : Cx} {pins : List (Addr × Obj)} {σ : L2.St} {H : Hp} {s : Shared} (I : Inv X pins σ H s) : PinsOk X.stack H s X.pn := fun p hp => by
  obtain ⟨h1, h2, h3, h4, h5⟩ := I.pin p (List.mem_append_left _ hp)
  refine ⟨h1, h2, fun hm => ?_, h5⟩
  rcases I.ok.stk with e | ⟨e, ef⟩
  · rw [e] at hm; exact h4 hm
  · rw [e] at hm
    unfold frs at hm
    rw [List.filterMap_cons, ef] at hm
    rcases List.mem_cons.mp hm with hm | hm
    · exact h3 hm
    · exact h4 hm
/-- what the error's def promises -/
def spE (K : PySem.W.Frag) (m : List Iv → Res) (a : Addr) (nm : Str) (fs : List (Str × T)) (H : Hp) (Q : VK) : Prop := ∃ F, Same F H ∧ match m [.val (encE a nm fs)] with
  | .ok (.val t) _ => ∀ H' F', (∀ b o, H b = some o → H' b = some o) → Same F F' → Same F' H' → (∀ b, F' b ≠ none → F b ≠ none ∨ H b = none) → ∀ v, Den K F' v t → Q v H'
  | _ => False
/-- an error that is known by its pins -/
def ErrP (K : PySem.W.Frag) (pn : List (Addr × Obj)) (a : Addr) (nm : Str) (fs : List (Str × T)) : Prop := ∀ X : Cx, X.K = K → X.pn = pn → ErrX X a nm fs
theorem ErrX.p {X : Cx} {a : Addr} {nm : Str} {fs : List (Str × T)} (e : ErrX X a nm fs) : ErrP X.K X.pn a nm fs := fun Y h1 h2 => by
  obtain ⟨C, dd, oe, od, vs, p1, p2, c1, c2, c3, cn, xc, lk, di, nf⟩ := e.ex
  exact ⟨C, dd, oe, od, vs, by rw [h2]; exact p1, by rw [h2]; exact p2, c1, c2, c3, by rw [h1]; exact cn, by rw [h1]; exact xc, lk, di, by rw [h1]; exact nf⟩
structure FnE (gq : Bool) (P : Program) (w : World) (K : PySem.W.Frag) (mg : Str → Option Value) (base : Heap) (k : Nat) (f : Addr) (fd : FuncData) (ps : List Str) (xnm : List Str) (m : List Iv → Res) : Prop where
  run : ∀ (A : Around) (outer : List PySem.Env) (s : Shared) (H : Hp) (a : Addr) (pn : List (Addr × Obj)) (nm : Str) (fs : List (Str × T)) (Q : VK), RoomH k A → (gq = true → A.guards = some []) → Env0 P w K mg base A outer s H →
    BindsTo s fd ⟨[.ref a], []⟩ (ps.zip [.ref a]) → PinsOk outer H s pn → ErrP K pn a nm fs → nm ∈ xnm → spE K m a nm fs H Q → codeAny (model P w) A (.call (.ref f) ⟨[.ref a], []⟩) (CR (CX P w) outer P w H s Q fun _ _ _ => False) s
/-- the context of such a def's body -/
def cxE (P : Program) (w : World) (K : PySem.W.Frag) (mg : Str → Option Value) (base : Heap) (N : List Str) (qual : Str) (scope : Scope) (f : Addr) (cd : Value) (A : Around) (outer : List PySem.Env) (s : Shared) (H : Hp) (pn : List (Addr × Obj)) : Cx :=
  { cxOf (CX P w) P w K mg base N qual scope f cd A outer s H (fun _ _ _ => False) with calm := false, pn := pn, xe := fun _ _ => False }
theorem fn_e {gq : Bool} {P : Program} {w : World} {K : PySem.W.Frag} {mg : Str → Option Value} {base : Heap} {k : Nat} {f : Addr} {name qual : Str} {params : Arguments} {body : List Stmt} {scope : Scope} {dV kV doc pm cdv ct oc : Value} {an od : Option Addr}
    {slots0 : Array (Option Value)} {N ps xnm : List Str} {m : List Iv → Res} (look0 : K.lookup f = some ⟨oc, od, .func (PySem.W.fnOf name qual params body scope dV kV doc pm an cdv ct), slots0⟩) (code0 : PySem.W.codeIn K cdv qual = true) (S : FnScope N ps scope) (one : ps.length = 1)
    (hbody : ∀ (A : Around) (frs0 : List PySem.Env) (s : Shared) (H : Hp) (a : Addr) (pn : List (Addr × Obj)) (nm : Str) (fs : List (Str × T)) (Q : VK), RoomH k (A.deeper (envOfC qual scope s.heap.objs.size f cdv)) → (gq = true → A.guards = some []) → ErrP K pn a nm fs → nm ∈ xnm → spE K m a nm fs H Q →
      ∃ t, PSs (cxE P w K mg base N qual scope f cdv A frs0 s H pn) body t ∧ t { nx := fun _ H' => Q .non H', rt := Q } (start N [.ref a]) H) :
    FnE gq P w K mg base (k + 1) f (PySem.W.fnOf name qual params body scope dV kV doc pm an cdv ct) ps xnm m := by
  refine ⟨fun A frs0 s H a pn nm fs Q hr gd here0 hb pins er hnm want => ?_⟩
  have kin1 : K.In s.heap := here0.mod.kin.keeps fun b o e => (here0.bs b o e).1
  have nol : s.heap.NoLimit := here0.mod.nolimit.keeps fun b o e => (here0.bs b o e).1
  have kinds : ∀ y ∈ ps.zip [Value.ref a], scope.names.lookup y.1 = some .local ∨ (scope.names.lookup y.1 = some .cell ∧ ((cellsFrom (s.heap.objs.size + 1) scope.names []).lookup y.1).isSome = true) := fun ⟨n, v⟩ hy => by
    rcases S.par n (List.of_mem_zip hy).1 with here | here
    · exact Or.inl here
    · exact Or.inr ⟨here, PySem.W.cellsFrom_some _ _ _ (.inl here)⟩
  refine codeAny_call_function (by have := hr.dp; omega) (kin1 _ _ look0) rfl S.co S.gen rfl (PySem.W.codeRec_of kin1 code0) (hb _ _ _ _ ?_)
  refine wpAny_newFunctionEnv_cells S.kind kinds fun env he s1 x => ?_
  subst he
  refine ⟨nol.keeps x.toInCall.keep, codeAny_func ?_⟩
  obtain ⟨t, walk, reads⟩ := hbody A frs0 s H a pn nm fs Q (hr.deeper _) gd er hnm want
  have e0' : Env0 P w K mg base { A with handled := none } frs0 s H := ⟨here0.frames, here0.mod, here0.bs, here0.bsz, here0.funs, here0.frf, here0.hok, here0.bare⟩
  have rv : Vals [V.ref a] [Value.ref a] := .cons rfl .nil
  have I0 := inv_start (CX := CX P w) (qual := qual) (f := f) (cd := cdv) (E := fun _ _ _ => False) S rfl e0' (by rw [one]; rfl) rv x
  have I : Inv (cxE P w K mg base N qual scope f cdv A frs0 s H pn) [] (start N [.ref a]) H s1 :=
    { ok := { mod := I0.ok.mod, kind := I0.ok.kind, glob := I0.ok.glob, blt := I0.ok.blt, above := I0.ok.above, inj := I0.ok.inj, has := I0.ok.has, cab := I0.ok.cab, hd := (fun h => by cases h), frames := I0.ok.frames, stk := I0.ok.stk, exf := I0.ok.exf, bs := I0.ok.bs, bsz := I0.ok.bsz, noex := I0.ok.noex, exfs := I0.ok.exfs, funs := I0.ok.funs, frf := I0.ok.frf }
      os := I0.os
      bare := I0.bare
      base := I0.base
      loc := I0.loc
      cell := I0.cell
      free := I0.free
      freeC := I0.freeC
      pin := fun p hp => by
        obtain ⟨h1, h2, h3, h4⟩ := pins p (by simpa [cxE] using hp)
        exact ⟨x.toInCall.keep _ _ h1, h2, Nat.ne_of_lt (Heap.lt_size h1), h3, h4⟩
      hok := I0.hok
      len := I0.len }
  refine wpAny_mono (walk.run [] s1 (start N [.ref a]) H _ I reads) (fun fl s' res => ?_) fun e s' res => res.elim
  have ending : ∀ {σ' : L2.St} {H' : Hp} {v : V} {u : Value}, Inv (cxE P w K mg base N qual scope f cdv A frs0 s H pn) [] σ' H' s' → RelV v u → Q v H' → CE frs0 P w H s Q u s' :=
    fun {σ' H' v u} J rv q => ⟨v, H', J.os, J.bare, J.base, J.hok, rv, q⟩
  cases fl with
  | ret u =>
    obtain ⟨v, σ', H', J, rv, q⟩ := res
    exact ending J rv q
  | next =>
    obtain ⟨σ', H', J, q⟩ := res
    exact ending (v := .non) (u := .none) J rfl q
  | brk =>
    obtain ⟨_, _, _, q⟩ := res
    exact q.elim
  | cont =>
    obtain ⟨_, _, _, q⟩ := res
    exact q.elim
/-! ## its call -/
section
variable {gq : Bool} {X : Cx} {W : WX} {C : Nat → List Iv → Res} {fi k : Nat} {x : Str} {f : Addr} {fd : FuncData} {ps xnm : List Str} {me : Env → Out R} {e : Expr} {p pos : Pos} {a : Addr} {nm : Str} {fs : List (Str × T)}
def mEcall (C : Nat → List Iv → Res) (fi : Nat) (g : T) (me : Env → Out R) : Env → Out R := fun env => (me env).bind fun r e1 => match r, g with
    | .val (.adr a), .tup [.adr b, .str nm, .dic kvs] => if a = b then (match C fi [.val (.tup [.adr b, .str nm, .dic kvs])] with
        | .ok (.val t) _ => .ok (.val t) e1
        | _ => .stuck) else .stuck
    | _, _ => .stuck
theorem EnvR.grow {K : PySem.W.Frag} {env : Env} {σ : L2.St} {H H' F F' : Hp} {fp : Nat → List Addr} (E : EnvR K env σ H F fp) (k : ∀ b o, H b = some o → H' b = some o) (s : Same F F') (s' : Same F' H') (n : ∀ b, F' b ≠ none → F b ≠ none ∨ H b = none) : EnvR K env σ H' F' fp := by
  have eq : ∀ i a, a ∈ fp i → H' a = H a := fun i a ha => by
    cases h : H a with
    | none => exact absurd h (E.here i a ha)
    | some o => exact k a o h
  refine ⟨fun i iv e => ?_, E.out, E.dis, fun i a ha => ?_, s', E.len⟩
  · obtain ⟨v, h1, h2⟩ := E.slot i iv e
    exact ⟨v, h1, h2.keep (eq i) s⟩
  · by_cases h : F' a = none
    · exact h
    · rcases n a h with z | z
      · exact absurd (E.free i a ha) z
      · exact absurd z (E.here i a ha)
theorem Stp.grow {P0 P : Fp} {H0 F0 H H' F F' : Hp} (t : Stp P0 H0 F0 P H F) (k : ∀ b o, H b = some o → H' b = some o) (s : Same F F') (n : ∀ b, F' b ≠ none → F b ≠ none ∨ H b = none) : Stp P0 H0 F0 P H' F' :=
  t.trans ⟨fun a x e _ => k a x e, s, fun a h => (n a h).imp id .inr, fun _ h => .inl h, fun _ h => .inl h, fun _ _ h => h⟩
theorem se_ecall (Fn : FnE gq X.prog X.w X.K X.mg X.base k f fd ps xnm (C fi)) (hr : RoomH k X.A) (hgd : gq = true → X.A.guards = some []) (hg : Gl X x) (hm : X.mg x = some (.ref f)) (hk : PySem.W.keepIn X.K (.ref f) = true) (hb : Binds X.K fd ps []) (hone : ps.length = 1) (tk : Takes X W) (er : ErrX X a nm fs) (hnm : nm ∈ xnm)
    (he : PE X e (tE X.K W me)) (hdb : (x == ("__debug__" : Str)) = false) (hns : noStarE e = true) : PE X (.Call (.Name x p) [e] [] pos) (tE X.K W (mEcall C fi (encE a nm fs) me)) := by
  refine ⟨fun pins s σ H Q I h => ?_⟩
  refine wpAny_Call_Name_kw (ld_glob I hg hm ?_ hdb)
  obtain ⟨env, F, fp, E, q⟩ := h
  have t : tE X.K W me σ H fun v H1 => [v] = [V.ref a] ∧ spE X.K (C fi) a nm fs H1 Q := by
    refine tE_intro E Stp.refl q fun r e1 H1 F1 fp1 v l E1 s1 rr tm q1 => ?_
    unfold encE at q1
    split at q1
    · rename_i a' b nm' kvs heq
      cases heq
      split at q1
      · rename_i hab
        subst hab
        cases rr with
        | val d =>
          cases d
          refine ⟨rfl, F1, E1.sub, ?_⟩
          unfold encE
          split at q1
          · rename_i t _ ec
            intro H' F' k1 k2 k3 k4 v d
            exact q1 H' F' fp1 (E1.grow k1 k2 k3 k4) (s1.grow k1 k2 k4) v [] (.val d) .nil
          · exact q1.elim
      · exact q1.elim
    · exact q1.elim
  refine PySem.W.callWith_K (h₀ := X.base) I.ok.mod.kin hk (thn ((pa_cons he pa_nil (star_cons hns)).run pos pins s σ H (fun vs H1 => vs = [V.ref a] ∧ spE X.K (C fi) a nm fs H1 Q) I t) fun us s1 ⟨vs, H1, I1, r, ev, q⟩ => ⟨I1.kIn, ?_⟩) (star_cons hns) (star_any rfl)
  subst ev
  cases r with
  | cons r1 r2 =>
    cases r2
    cases r1
    refine wpAny_call (codeAny_mono (Fn.run X.A X.stack s1 H1 a X.pn nm fs Q hr hgd I1.env0 (by have := hb s1 [Value.ref a] I1.kIn (by rw [hone]; rfl); simpa using this) (pins_ok I1) er.p hnm q) fun r s' hq => ?_)
    cases r with
    | error z => exact tk z s' (XE.of_call I1 (fun cls d H' h => h.elim) hq)
    | ok fl =>
      cases fl with
      | ret u => exact I1.after hq
      | next => exact False.elim hq
      | brk => exact False.elim hq
      | cont => exact False.elim hq
end
end G
namespace G
open PySem PySem.Spec PyProof.Rows L2

/-! # from the text to the small language -/
/-- an own exception class: its fields, its text, what it is a subclass of -/
structure XI where
  nm : Str
  fl : List Str
  msg : IE
  up : List Str
/-- a class of plain objects: its fields, its __init__, its methods -/
structure OI where
  nm : Str
  fl : List Str
  ini : Option Nat
  ms : List (Str × Nat)
structure Gam where
  N : List Str
  np : Nat
  fs : List (Str × Nat)
  gs : List (Str × Nat)
  gcd : Bool
  lf : Option Str
  dn : List Str
  rq : Bool
  xs : List XI
  xn : List Str
  os : List OI
  es : List (Str × Nat)
  calm : Bool
/-- .. in an except suite -/
def Gam.cool (Γ : Gam) : Gam := { Γ with calm := false }
/-- the classes that have a field -/
def fldNs (os : List OI) (f : Str) : List Str := (os.filter fun oi => oi.fl.contains f).map (·.nm)
/-- a method's defs -/
def methTab (os : List OI) (m : Str) : List (Str × Nat) := os.filterMap fun oi => (oi.ms.lookup m).map fun i => (oi.nm, i)
def iniOf (os : List OI) (c : Str) : Option Nat := (os.find? fun oi => oi.nm == c).bind (·.ini)
def ixOf : List Str → Str → Option Nat
  | [], _ => none
  | y :: ys, x => if y = x then some 0 else (ixOf ys x).map (· + 1)
theorem ixOf_get : ∀ {l : List Str} {x : Str} {i : Nat}, ixOf l x = some i → l[i]? = some x
  | [], _, _, h => by simp [ixOf] at h
  | y :: ys, x, i, h => by
    unfold ixOf at h
    split at h
    · cases h; rename_i e; subst e; rfl
    · obtain ⟨j, hj, rfl⟩ := Option.map_eq_some_iff.mp h
      simpa using ixOf_get hj
theorem ixOf_none : ∀ {l : List Str} {x : Str}, ixOf l x = none → x ∉ l
  | [], _, _ => by simp
  | y :: ys, x, h => by
    unfold ixOf at h
    split at h
    · cases h
    · rename_i hne
      have := ixOf_none (Option.map_eq_none_iff.mp h)
      simp only [List.mem_cons, not_or]
      exact ⟨fun e => hne e.symm, this⟩
def gd {α : Type} (b : Bool) (o : Option α) : Option α := if b then o else none
theorem gd_some {α : Type} {b : Bool} {o : Option α} {x : α} : gd b o = some x ↔ b = true ∧ o = some x := by
  unfold gd; cases b <;> simp
def plainN (x : Str) : Bool := !(x == ("__debug__" : Str)) && !(x == ("__classdict__" : Str))
def isLoc (sc : Scope) (x : Str) : Bool := sc.names.lookup x == some .local || sc.names.lookup x == some .cell
def isVis (sc : Scope) (x : Str) : Bool := isLoc sc x || sc.names.lookup x == some .free
def isGl (sc : Scope) (x : Str) : Bool := sc.names.lookup x == some .globalImplicit
def slotOf (Γ : Gam) (sc : Scope) (x : Str) : Option Nat := gd (isVis sc x && plainN x) (ixOf Γ.N x)
def locOf (Γ : Gam) (sc : Scope) (x : Str) : Option Nat := gd (isLoc sc x && plainN x) (ixOf Γ.N x)
def nameE (Γ : Gam) (sc : Scope) (mv : Bool) (x : Str) : Option IE :=
  match slotOf Γ sc x with
  | some i => some (if mv then .mov i else .var i)
  | none => gd (isGl sc x && plainN x) ((Γ.gs.lookup x).map IE.glob)
def conE : Const → Option IE
  | .none => some .non
  | .bool b => some (.bl b)
  | .int i => some (.int i)
  | .str s => some (.str s)
  | _ => none
structure Tr where
  e : Scope → Bool → Expr → Option IE
  t : Scope → Expr → Option IB
def trL (r : Tr) (sc : Scope) (mv : Bool) : List Expr → Option IEs
  | [] => some .nil
  | e :: es => gd (noStarE e) ((r.e sc mv e).bind fun a => (trL r sc mv es).map (IEs.cons a))
def andE (r : Tr) (sc : Scope) : List Expr → Option IE
  | [] => none
  | [a] => r.e sc false a
  | a :: b :: rest => (r.e sc false a).bind fun x => (andE r sc (b :: rest)).map (IE.and x)
def orE (r : Tr) (sc : Scope) : List Expr → Option IE
  | [] => none
  | [a] => r.e sc false a
  | a :: b :: rest => (r.e sc false a).bind fun x => (orE r sc (b :: rest)).map (IE.or x)
def andT (r : Tr) (sc : Scope) : List Expr → Option IB
  | [] => none
  | [a] => r.t sc a
  | a :: b :: rest => (r.t sc a).bind fun x => (andT r sc (b :: rest)).map (IB.and x)
def orT (r : Tr) (sc : Scope) : List Expr → Option IB
  | [] => none
  | [a] => r.t sc a
  | a :: b :: rest => (r.t sc a).bind fun x => (orT r sc (b :: rest)).map (IB.or x)
def biTab : List (Str × BI) := [("len", .len), ("int", .int), ("abs", .abs), ("str", .str), ("list", .list), ("tuple", .tuple), ("max", .max2), ("min", .min2), ("all", .all), ("sorted", .sorted), ("bool", .bool), ("sum", .sum)]
def bNames : List Str := "super" :: "ZeroDivisionError" :: "isinstance" :: "range" :: "zip" :: "repr" :: (biTab.map (·.1) ++ isTys.map Str.ofString)
def tyOf (sc : Scope) : Expr → Option String
  | .Name y _ => gd (isGl sc y) (isTys.find? fun z => Str.ofString z == y)
  | _ => none
def tysOf (sc : Scope) : List Expr → Option (List String)
  | [] => some []
  | e :: es => (tyOf sc e).bind fun t => (tysOf sc es).map (t :: ·)
def isinE (r : Tr) (sc : Scope) (a : Expr) : List Expr → Option IE
  | [] => none
  | b :: c => match c with
    | [] => (r.e sc false a).bind fun ia => match b with
      | .Tuple ns _ _ => gd (decide (ns.length < 100)) ((tysOf sc ns).map (IE.isin ia))
      | .Name y p => (tyOf sc (.Name y p)).map fun t => IE.isin ia [t]
      | _ => none
    | _ => none
def callN (Γ : Gam) (r : Tr) (sc : Scope) (x : Str) (args : List Expr) : Option IE :=
  gd (isGl sc x && plainN x && noStar args) (match Γ.fs.lookup x with
    | some i => (trL r sc false args).map (IE.call i)
    | none => match iniOf Γ.os x with
      | some i => (trL r sc false args).map (IE.make x i)
      | none => match args with
      | [] => none
      | a :: rest => match biTab.lookup x with
        | some b => (trL r sc false (a :: rest)).map (IE.bi b)
        | none => if x = ("gcd" : Str) then gd Γ.gcd ((trL r sc false (a :: rest)).map (IE.bi .gcd))
          else if x = ("repr" : Str) then gd Γ.rq ((trL r sc false (a :: rest)).map (IE.bi .repr))
          else gd (x == ("isinstance" : Str)) (isinE r sc a rest))
def callM (r : Tr) (sc : Scope) (o : Expr) (name : Str) (args : List Expr) : Option IE :=
  gd (noCall0 o && noStar args) (match args with
    | [] => gd (name == ("bit_length" : Str)) ((r.e sc false o).map (IE.met0 .bits))
    | [a] => if name = ("join" : Str) then (r.e sc false o).bind fun io => (r.e sc false a).map (IE.met1 .join io)
      else gd (name == ("split" : Str)) ((r.e sc false o).bind fun io => (r.e sc false a).map (IE.met1 .split io))
    | [a, b] => gd (name == ("get" : Str)) ((r.e sc false o).bind fun io => (r.e sc false a).bind fun ia => (r.e sc true b).map (IE.dget2 io ia))
    | _ => none)
def optE (r : Tr) (sc : Scope) : Option Expr → Option IO
  | none => some .none
  | some e => (r.e sc false e).map IO.some
def tgtNs (Γ : Gam) (sc : Scope) : List Expr → Option (List Nat)
  | [] => some []
  | .Name x _ :: es => (locOf Γ sc x).bind fun i => (tgtNs Γ sc es).map (i :: ·)
  | _ => none
def tgtE (Γ : Gam) (sc : Scope) : Expr → Option Tgt
  | .Name x _ => (locOf Γ sc x).map Tgt.name
  | .Tuple es _ _ => (tgtNs Γ sc es).map Tgt.tup
  | _ => none
def isTup : Expr → Bool
  | .Tuple _ _ _ => true
  | _ => false
def notSet : Expr → Bool
  | .Set _ _ _ => false
  | _ => true
def srcN (r : Tr) (sc : Scope) (tg : Expr) (x : Str) (args : List Expr) : Option Src :=
  gd (isGl sc x && noStar args) (match args with
    | [a] => gd (x == ("range" : Str)) ((r.e sc false a).map Src.rng1)
    | [a, b] => if x = ("range" : Str) then (r.e sc false a).bind fun ia => (r.e sc false b).map (Src.rng2 ia)
      else gd (x == ("zip" : Str) && isTup tg) ((r.e sc false a).bind fun ia => (r.e sc false b).map (Src.zip ia))
    | _ => none)
def srcE (r : Tr) (sc : Scope) (tg iter : Expr) : Option Src :=
  gd (notSet iter) (match iter with
    | .Call (.Name x _) args [] _ => match srcN r sc tg x args with
      | some s => some s
      | none => (r.e sc false iter).map Src.seq
    | _ => (r.e sc false iter).map Src.seq)
def ownOf (Γ : Gam) : List (Str × NameKind) → List (Str × Nat)
  | [] => []
  | (x, k) :: r => match k with
    | .local => (match ixOf Γ.N x with | some i => (x, i) :: ownOf Γ r | none => ownOf Γ r)
    | .cell => (match ixOf Γ.N x with | some i => (x, i) :: ownOf Γ r | none => ownOf Γ r)
    | _ => ownOf Γ r
def blkB (sc scope : Scope) : Bool := decide (scope.kind = .function) && scope.names.all (fun y => decide (scope.names.lookup y.1 = some y.2) && (if y.2 = .free then (sc.names.lookup y.1 == some .cell || sc.names.lookup y.1 == some .free) else true))
def ifsE (r : Tr) (sc : Scope) : List Expr → Option IBO
  | [] => some .none
  | [c] => (r.t sc c).map IBO.some
  | _ => none
def lcE (Γ : Gam) (r : Tr) (sc : Scope) (elt tg iter : Expr) (ifs : List Expr) (scope : Scope) : Option IE :=
  gd (blkB sc scope) ((srcE r sc tg iter).bind fun s => (tgtE Γ scope tg).bind fun g => gd ((tgIs g).all fun i => ((ownOf Γ scope.names).map (·.2)).contains i)
    ((ifsE r (relS scope sc) ifs).bind fun c => (r.e (relS scope sc) true elt).map fun e => IE.lc s g c e (ownOf Γ scope.names)))
def dcE (Γ : Gam) (r : Tr) (sc : Scope) (kx vx tg iter : Expr) (ifs : List Expr) (scope : Scope) : Option IE :=
  gd (blkB sc scope) ((srcE r sc tg iter).bind fun s => (tgtE Γ scope tg).bind fun g => gd ((tgIs g).all fun i => ((ownOf Γ scope.names).map (·.2)).contains i)
    ((ifsE r (relS scope sc) ifs).bind fun c => (r.e (relS scope sc) false kx).bind fun k => (r.e (relS scope sc) true vx).map fun v => IE.dc s g c k v (ownOf Γ scope.names)))
def lockW (Γ : Gam) (sc : Scope) (iter : Expr) (ie : IE) : IE :=
  match iter with
  | .Name x _ => if Γ.dn.contains x then (match slotOf Γ sc x with | some i => .lockd i ie | none => ie) else ie
  | _ => ie
def flatKV (r : Tr) (sc : Scope) : List (Option Expr) → List Expr → Option IEs
  | [], [] => some .nil
  | some k :: ks, v :: vs => (r.e sc false k).bind fun a => (r.e sc true v).bind fun b => (flatKV r sc ks vs).map fun c => .cons a (.cons b c)
  | _, _ => none
def dispE (r : Tr) (sc : Scope) (ks : List (Option Expr)) (vs : List Expr) : Option IE :=
  if ks = [] then gd (decide (vs = [])) (some .dnew) else gd (decide (ks.length ≤ 15)) ((flatKV r sc ks vs).map IE.disp)
def callE (Γ : Gam) (r : Tr) (sc : Scope) (f : Expr) (args : List Expr) (kws : List Keyword) (pos : Pos) : Option IE :=
  match kws with
  | [] => match f with
    | .Name x _ => callN Γ r sc x args
    | .Attribute o name apos => if methTab Γ.os name = [] then gd (apos.endLine == pos.line) (callM r sc o name args)
      else gd ((apos.endLine == pos.line) && (decide (args.length < 30) && (noCall0 o && noStar args))) ((r.e sc false o).bind fun io => (trL r sc false args).map (IE.meth name (methTab Γ.os name) io))
    | _ => none
  | [⟨some kw, .Name kf _, _⟩] => match f, args with
    | .Name x _, [e] => gd (isGl sc x && x == ("sorted" : Str) && kw == ("key" : Str) && isGl sc kf && plainN kf && noStarE e && (Γ.lf == some kf)) ((r.e sc false e).map IE.sortLF)
    | _, _ => none
  | _ => none
/-- the exceptions that are of one of these classes -/
def xyes (Γ : Gam) (ys : List Str) : List Str := (Γ.xs.filter fun xi => ys.any fun y => xi.up.contains y).map (·.nm)
def xno (Γ : Gam) (ys : List Str) : List Str := (Γ.xs.filter fun xi => !(ys.any fun y => xi.up.contains y)).map (·.nm)
def xnames (Γ : Gam) (sc : Scope) : List Expr → Option (List Str)
  | [] => some []
  | .Name y _ :: es => gd (isGl sc y && plainN y && Γ.xn.contains y) ((xnames Γ sc es).map (y :: ·))
  | _ => none
/-- isinstance(error, ..) -/
def eisE (Γ : Gam) (r : Tr) (sc : Scope) (args : List Expr) : Option IE :=
  match args with
  | [a, b] => match b with
    | .Tuple ns _ _ => (r.e sc false a).bind fun ia => gd (decide (ns.length < 100)) ((xnames Γ sc ns).map fun ys => IE.eisin ia (xyes Γ ys))
    | .Name y p => (r.e sc false a).bind fun ia => (xnames Γ sc [.Name y p]).map fun ys => IE.eisin ia (xyes Γ ys)
    | _ => none
  | _ => none
def isxE (Γ : Gam) (r : Tr) (sc : Scope) (x : Str) (args : List Expr) : Option IE :=
  gd (isGl sc x && (x == ("isinstance" : Str)) && noStar args) (match args with
      | [] => none
      | a :: rest => match isinE r sc a rest with
        | some e => some e
        | none => eisE Γ r sc (a :: rest))
/-- calls in an except suite -/
def coolE (Γ : Gam) (r : Tr) (sc : Scope) (f : Expr) (args : List Expr) (kws : List Keyword) : Option IE :=
  match kws with
  | [] => match f with
    | .Name x _ => match Γ.es.lookup x, args with
      | some i, [e] => gd (isGl sc x && plainN x && noStarE e) ((r.e sc false e).map (IE.ecall i))
      | _, _ => isxE Γ r sc x args
    | _ => none
  | _ => none
def cmpE (r : Tr) (sc : Scope) (a : Expr) (ops : List CmpOp) (cs : List Expr) : Option IE :=
  match ops, cs with
  | [op], [b] => gd (!behindInMarks op b) ((r.e sc false a).bind fun ia => (r.e sc false b).map (IE.cmp op ia))
  | [op, op'], [b, c] => gd (!behindInMarks op' c) ((r.e sc false a).bind fun ia => (r.e sc false b).bind fun ib => (r.e sc false c).map (IE.chain op op' ia ib))
  | _, _ => none
def subE (r : Tr) (sc : Scope) (a i : Expr) : Option IE :=
  match i with
  | .Slice lo hi none _ => (r.e sc false a).bind fun ia => (optE r sc lo).bind fun il => (optE r sc hi).map (IE.sl ia il)
  | i => gd (!isSl i) ((r.e sc false a).bind fun ia => (r.e sc false i).map (IE.ix ia))
/-- the parts of an f-string -/
def fpartE (r : Tr) (sc : Scope) : Expr → Option IE
  | .FormattedValue e c none _ => gd (c == -1) (r.e sc false e)
  | .Constant (.str s) _ _ => some (.str s)
  | _ => none
def fpartsE (r : Tr) (sc : Scope) : List Expr → Option IEs
  | [] => some .nil
  | e :: es => (fpartE r sc e).bind fun a => (fpartsE r sc es).map (IEs.cons a)
def stepE (Γ : Gam) (r : Tr) (sc : Scope) (mv : Bool) : Expr → Option IE
  | .Name x _ => nameE Γ sc mv x
  | .Constant c _ _ => conE c
  | .BinOp a op b _ => (r.e sc false a).bind fun ia => (r.e sc false b).map (IE.bin op ia)
  | .UnaryOp op a _ => match op with
    | .USub => (r.e sc false a).map IE.neg
    | .Not => (r.e sc false a).map IE.not
    | _ => none
  | .BoolOp op es _ => match op with
    | .And => andE r sc es
    | .Or => orE r sc es
  | .Compare a ops cs _ => cmpE r sc a ops cs
  | .IfExp c a b _ => (r.t sc c).bind fun ic => (r.e sc mv a).bind fun ia => (r.e sc mv b).map (IE.ifx ic ia)
  | .Tuple es _ _ => (trL r sc true es).map IE.tup
  | .List es _ => (trL r sc true es).map IE.lst
  | .Dict ks vs _ => dispE r sc ks vs
  | .DictComp kx vx [⟨tg, iter, ifs, n⟩] scope _ => gd (Γ.calm && n == 0) (dcE Γ r sc kx vx tg iter ifs scope)
  | .Call f args kws pos => if Γ.calm = true then callE Γ r sc f args kws pos else coolE Γ r sc f args kws
  | .Attribute o f _ => if Γ.calm = true then gd (noCall0 o) ((r.e sc false o).map fun e => IE.fld e f (fldNs Γ.os f))
    else (match o with
    | .Name x p => (r.e sc false (.Name x p)).map fun e => IE.efld e f
    | _ => none)
  | .Subscript a i _ => subE r sc a i
  | .JoinedStr es _ => gd (decide (2 ≤ es.length)) ((fpartsE r sc es).map IE.fstr)
  | .ListComp elt [⟨tg, iter, ifs, n⟩] scope _ => gd (Γ.calm && n == 0) ((lcE Γ r sc elt tg iter ifs scope).map (lockW Γ sc iter))
  | _ => none
def stepT (r : Tr) (sc : Scope) : Expr → Option IB
  | .UnaryOp .Not a _ => (r.t sc a).map IB.not
  | .BoolOp op es _ => match op with
    | .And => andT r sc es
    | .Or => orT r sc es
  | .Compare a ops cs _ => (cmpE r sc a ops cs).map IB.val
  | e => gd (plainT e) ((r.e sc false e).map IB.val)
def tr (Γ : Gam) : Nat → Tr
  | 0 => ⟨fun _ _ _ => none, fun _ _ => none⟩
  | n + 1 => ⟨stepE Γ (tr Γ n), stepT (tr Γ n)⟩

/-! # what is known of a place -/
/-- a def that may be called -/
def Callee (gq : Bool) (X : Cx) (C : Nat → List Iv → Res) (D : Nat → Nat → List T) (k : Nat) (x : Str) (i : Nat) : Prop :=
  ∃ f fd ps, X.mg x = some (.ref f) ∧ PySem.W.keepIn X.K (.ref f) = true ∧ FnG gq X.prog X.w X.K X.mg X.base k f fd ps (spF X.K (C i)) ∧
    ∀ n, ∃ dvs ds, Vals dvs ds ∧ (∀ F, DenAll X.K F dvs (D i n)) ∧ Binds X.K fd ps ds
/-- a class that may be asked for -/
structure XName (K : PySem.W.Frag) (mg : Str → Option Value) (xs : List XI) (y : Str) : Prop where
  ex : ∃ v u, ((∃ D : Addr, mg y = some (.ref D) ∧ v = V.ref D ∧ u = Value.ref D) ∨ ∃ T : String, mg y = none ∧ bootBuiltins y = some (.type T) ∧ y ≠ "__name__" ∧ v = V.ty T ∧ u = Value.type T) ∧
    ∀ xi ∈ xs, ∀ C, ClsNm K C xi.nm → PySem.W.kitOne K (.ref C) u = some (xi.up.contains y) ∧ PySem.W.exmOne K (.ref C) u = some (xi.up.contains y)
structure Good (gq : Bool) (Γ : Gam) (C : Nat → List Iv → Res) (G : Nat → T) (D : Nat → Nat → List T) (X : Cx) (W : WX) (k : Nat) (sc own : Scope) : Prop where
  scope : X.env.scope = sc
  kind : sc.kind = .function
  N : X.N = Γ.N
  nd : X.N.Nodup
  calm : Γ.calm = true → X.calm = true
  room : Γ.calm = true → Room (k + 1) X.A
  k2 : Γ.xs ≠ [] → 2 ≤ k
  rh : RoomH (k + 1) X.A
  hu : X.A.units + 65 < cLine
  gd : gq = true → X.A.guards = some []
  rq : Γ.rq = true → gq = true
  sm : gq = true → ∃ m, X.base.Ns sysModules m
  takes : Takes X W
  loc : ∀ x, isLoc own x = true → Loc X.env.scope x ∧ (X.fn x = true ∨ X.env.scope.names.lookup x = some .local)
  fn : ∀ x i, Γ.fs.lookup x = some i → Callee gq X C D k x i
  gl : ∀ x j, Γ.gs.lookup x = some j → ∃ v u, X.mg x = some u ∧ RelV v u ∧ ∀ F, Den X.K F v (G j)
  blt : ∀ x ∈ bNames, X.mg x = none
  gcd : Γ.gcd = true → X.mg "gcd" = some (.builtin "math.gcd")
  lf : ∀ x, Γ.lf = some x → ∃ f, X.mg x = some (.ref f) ∧ LfOk X.K X.mg f
  gne : ∀ x j, Γ.gs.lookup x = some j → j ≠ eK
  xc : ∀ xi ∈ Γ.xs, ∀ C, ClsNm X.K C xi.nm → XCls X.K C
  xmk : ∀ xi ∈ Γ.xs, ∃ C, MkX X k xi.nm C xi.fl xi.msg
  xnd : (Γ.xs.map (·.nm)).Nodup
  xn : ∀ y ∈ Γ.xn, XName X.K X.mg Γ.xs y
  fo : ∀ f, HasFld X.K f (fldNs Γ.os f)
  mo : ∀ m nm i, (methTab Γ.os m).lookup nm = some i → ∀ n, MethOk gq X C k m nm i (D i n)
  co : ∀ c i, iniOf Γ.os c = some i → ∃ Cc f fd ps, X.mg c = some (.ref Cc) ∧ ClsNm X.K Cc c ∧ Mk X.K Cc f ∧ FnG gq X.prog X.w X.K X.mg X.base k f fd ps (spF X.K (C i)) ∧ ∀ n, ∃ dvs ds, Vals dvs ds ∧ (∀ F, DenAll X.K F dvs (D i n)) ∧ Binds X.K fd ps ds
  ecs : ∀ x i, Γ.es.lookup x = some i → ∃ f fd ps, X.mg x = some (.ref f) ∧ PySem.W.keepIn X.K (.ref f) = true ∧ ps.length = 1 ∧ Binds X.K fd ps [] ∧ FnE gq X.prog X.w X.K X.mg X.base k f fd ps (Γ.xs.map (·.nm)) (C i)
  er : Γ.calm = false → ∃ a nm fs, G eK = encE a nm fs ∧ (∃ xi ∈ Γ.xs, xi.nm = nm) ∧ ErrX X a nm fs
theorem isLoc_or {sc : Scope} {x : Str} (h : isLoc sc x = true) : sc.names.lookup x = some .local ∨ sc.names.lookup x = some .cell := by
  simpa [isLoc] using h
theorem Good.blk {gq : Bool} {Γ : Gam} {C : Nat → List Iv → Res} {G : Nat → T} {D : Nat → Nat → List T} {X : Cx} {W : WX} {k : Nat} {sc own scope : Scope} (g : Good gq Γ C G D X W k sc own) (hc : Γ.calm = true) (hk : scope.kind = .function) (s : Shared) (H : Hp) (c : Addr) (cl : List (Str × Addr)) (fp : List Addr) :
    Good gq Γ C G D (X.blk s H scope (compEnvC scope cl c X.env) fp) W0 k (relS scope sc) scope where
  scope := by rw [← g.scope]; rfl
  kind := hk
  N := g.N
  nd := g.nd
  calm := g.calm
  room := g.room
  k2 := g.k2
  rh := g.rh
  hu := g.hu
  gd := g.gd
  rq := g.rq
  sm := g.sm
  takes := fun u s' x => by
    obtain ⟨_, _, _, _, _, _, _, _, _, _, _, _, _, _, _, _, w⟩ := x
    exact w.elim
  loc := fun x h => by
    have e : (X.blk s H scope (compEnvC scope cl c X.env) fp).env.scope = relS scope X.env.scope := rfl
    rw [e]
    rcases isLoc_or h with h | h
    · have q := lookup_relS_keep (sc := X.env.scope) (by decide) h
      exact ⟨.inl q, .inr q⟩
    · refine ⟨.inr (lookup_relS_keep (by decide) h), .inl ?_⟩
      show (scope.names.lookup x == some .cell) = true
      rw [h]; rfl
  fn := g.fn
  gl := g.gl
  blt := g.blt
  gcd := g.gcd
  lf := g.lf
  gne := g.gne
  xc := g.xc
  xmk := fun xi h => by obtain ⟨C, M⟩ := g.xmk xi h; exact ⟨C, M.oex, M.mg, M.cn, M.nf, M.init⟩
  xnd := g.xnd
  xn := g.xn
  fo := g.fo
  mo := fun m nm i h n => ⟨(g.mo m nm i h n).ex⟩
  co := g.co
  ecs := g.ecs
  er := fun h => by rw [hc] at h; cases h
end G
namespace G
open PySem PySem.Spec PyProof.Rows L2

section
variable {gq : Bool} {Γ : Gam} {C : Nat → List Iv → Res} {G : Nat → T} {D : Nat → Nat → List T}
/-- a translation that may be relied on -/
structure Snd (gq : Bool) (Γ : Gam) (C : Nat → List Iv → Res) (G : Nat → T) (D : Nat → Nat → List T) (r : Tr) : Prop where
  e : ∀ {X W k sc own}, Good gq Γ C G D X W k sc own → ∀ {mv e ie}, r.e sc mv e = some ie → PE X e (tE X.K W (ev C G D ie))
  t : ∀ {X W k sc own}, Good gq Γ C G D X W k sc own → ∀ {e ib}, r.t sc e = some ib → PT X e (_root_.G.tB X.K W (evT C G D ib))
variable {X : Cx} {W : WX} {k : Nat} {sc own : Scope} {r : Tr} {pos : Pos}
theorem plainN_1 {x : Str} (h : plainN x = true) : (x == ("__debug__" : Str)) = false ∧ (x == ("__classdict__" : Str)) = false := by
  unfold plainN at h
  rw [Bool.and_eq_true] at h
  exact ⟨by simpa using h.1, by simpa using h.2⟩
theorem Good.hu1 (g : Good gq Γ C G D X W k sc own) : X.A.units + 1 < cLine := by have := g.hu; omega
theorem Good.gl_ (g : Good gq Γ C G D X W k sc own) {x : Str} (h : isGl sc x = true) : Gl X x := by
  show X.env.scope.names.lookup x = _
  rw [g.scope]
  simpa [isGl] using h
theorem vis_of {x : Str} (h : isVis sc x = true) : Vis sc x := by
  unfold isVis at h
  rcases Bool.or_eq_true_iff.mp h with h | h
  · exact (isLoc_or h).imp id .inl
  · exact .inr (.inr (by simpa using h))
theorem slot_ok (g : Good gq Γ C G D X W k sc own) {x : Str} {i : Nat} (h : slotOf Γ sc x = some i) : PE X (.Name x pos) (tVar i) := by
  unfold slotOf at h
  obtain ⟨h1, h2⟩ := gd_some.mp h
  rw [Bool.and_eq_true] at h1
  obtain ⟨p1, p2⟩ := plainN_1 h1.2
  exact pe_var (by rw [g.N]; exact ixOf_get h2) (by rw [g.scope]; exact vis_of h1.1) p1 p2
theorem name_ok (g : Good gq Γ C G D X W k sc own) {x : Str} {mv : Bool} {ie : IE} (h : nameE Γ sc mv x = some ie) : PE X (.Name x pos) (tE X.K W (ev C G D ie)) := by
  unfold nameE at h
  split at h
  · rename_i i hs
    cases mv with
    | true => cases h; exact se_mov (slot_ok g hs)
    | false => cases h; exact se_var (slot_ok g hs)
  · obtain ⟨h1, h2⟩ := gd_some.mp h
    rw [Bool.and_eq_true] at h1
    obtain ⟨j, hj, rfl⟩ := Option.map_eq_some_iff.mp h2
    obtain ⟨v, u, hm, hr, hd⟩ := g.gl x j hj
    exact se_con (pe_glob (g.gl_ h1.1) hm hr (plainN_1 h1.2).1) hd
theorem con_ok {c : Const} {n : Nat} {ie : IE} (h : conE c = some ie) : PE X (.Constant c n pos) (tE X.K W (ev C G D ie)) := by
  cases c <;> simp [conE] at h <;> subst h
  · exact se_con pe_non fun _ => .non
  · exact se_con pe_bl fun _ => .bl _
  · exact se_con pe_int fun _ => .int _
  · exact se_con pe_str fun _ => .str _
theorem trL_ok (S : Snd gq Γ C G D r) (g : Good gq Γ C G D X W k sc own) {mv : Bool} : ∀ {es : List Expr} {ies : IEs}, trL r sc mv es = some ies → PA X es (tA X.K W (evs C G D ies)) ∧ ies.len = es.length
  | [], ies, h => by cases h; exact ⟨sa_nil, rfl⟩
  | e :: es, ies, h => by
    unfold trL at h
    obtain ⟨h1, h2⟩ := gd_some.mp h
    simp only [Option.bind_eq_some_iff, Option.map_eq_some_iff] at h2
    obtain ⟨a, ha, as, has, rfl⟩ := h2
    obtain ⟨q1, q2⟩ := trL_ok S g has
    exact ⟨sa_cons (S.e g ha) q1 (star_ne h1), by show as.len + 1 = _; rw [q2]; rfl⟩
theorem andE_ok (S : Snd gq Γ C G D r) (g : Good gq Γ C G D X W k sc own) : ∀ {es : List Expr} {ie : IE}, andE r sc es = some ie → PE X (.BoolOp .And es pos) (tE X.K W (ev C G D ie))
  | [], _, h => by simp [andE] at h
  | [a], _, h => pe_one (S.e g h)
  | a :: b :: rest, ie, h => by
    simp only [andE, Option.bind_eq_some_iff, Option.map_eq_some_iff] at h
    obtain ⟨x, hx, y, hy, rfl⟩ := h
    exact se_and (S.e g hx) (andE_ok S g hy)
theorem orE_ok (S : Snd gq Γ C G D r) (g : Good gq Γ C G D X W k sc own) : ∀ {es : List Expr} {ie : IE}, orE r sc es = some ie → PE X (.BoolOp .Or es pos) (tE X.K W (ev C G D ie))
  | [], _, h => by simp [orE] at h
  | [a], _, h => pe_one (S.e g h)
  | a :: b :: rest, ie, h => by
    simp only [orE, Option.bind_eq_some_iff, Option.map_eq_some_iff] at h
    obtain ⟨x, hx, y, hy, rfl⟩ := h
    exact se_or (S.e g hx) (orE_ok S g hy)
theorem andT_ok (S : Snd gq Γ C G D r) (g : Good gq Γ C G D X W k sc own) : ∀ {es : List Expr} {ie : IB}, andT r sc es = some ie → PW X (.BoolOp .And es pos) (_root_.G.tB X.K W (evT C G D ie))
  | [], _, h => by simp [andT] at h
  | [a], _, h => pw_and1 (S.t g h)
  | a :: b :: rest, ie, h => by
    simp only [andT, Option.bind_eq_some_iff, Option.map_eq_some_iff] at h
    obtain ⟨x, hx, y, hy, rfl⟩ := h
    exact st_and (S.t g hx) (andT_ok S g hy)
theorem orT_ok (S : Snd gq Γ C G D r) (g : Good gq Γ C G D X W k sc own) : ∀ {es : List Expr} {ie : IB}, orT r sc es = some ie → PW X (.BoolOp .Or es pos) (_root_.G.tB X.K W (evT C G D ie))
  | [], _, h => by simp [orT] at h
  | [a], _, h => pw_or1 (S.t g h)
  | a :: b :: rest, ie, h => by
    simp only [orT, Option.bind_eq_some_iff, Option.map_eq_some_iff] at h
    obtain ⟨x, hx, y, hy, rfl⟩ := h
    exact st_or (S.t g hx) (orT_ok S g hy)
theorem cmp_ok (S : Snd gq Γ C G D r) (g : Good gq Γ C G D X W k sc own) {a : Expr} {ops : List CmpOp} {cs : List Expr} {ie : IE} (h : cmpE r sc a ops cs = some ie) :
    PE X (.Compare a ops cs pos) (tE X.K W (ev C G D ie)) ∧ PT X (.Compare a ops cs pos) (_root_.G.tB X.K W (evT C G D (.val ie))) := by
  unfold cmpE at h
  split at h
  · obtain ⟨h1, h2⟩ := gd_some.mp h
    simp only [Option.bind_eq_some_iff, Option.map_eq_some_iff] at h2
    obtain ⟨ia, ha, ib, hb, rfl⟩ := h2
    exact ⟨se_cmp g.hu (S.e g ha) (S.e g hb) (by simpa using h1), st_cmp g.hu (S.e g ha) (S.e g hb) (by simpa using h1)⟩
  · obtain ⟨h1, h2⟩ := gd_some.mp h
    simp only [Option.bind_eq_some_iff, Option.map_eq_some_iff] at h2
    obtain ⟨ia, ha, ib, hb, ic, hc, rfl⟩ := h2
    exact ⟨se_chain g.hu (S.e g ha) (S.e g hb) (S.e g hc) (by simpa using h1), st_chain g.hu (S.e g ha) (S.e g hb) (S.e g hc) (by simpa using h1)⟩
  · cases h
/-! ## calls -/
def biKind (x : Str) (b : BI) : Bool := (match biVal b with
  | .builtin id => decide (bootBuiltins x = some (.builtin id))
  | .type id => decide (bootBuiltins x = some (.type id))
  | _ => false) && decide (b ≠ .repr) && decide (x ≠ "__name__") && bNames.contains x
theorem biTab_ok : (biTab.all fun p => biKind p.1 p.2) = true := by decide +kernel
theorem lookup_mem {α : Type} : ∀ {l : List (Str × α)} {x : Str} {b : α}, l.lookup x = some b → (x, b) ∈ l
  | [], _, _, h => by simp at h
  | (y, c) :: l, x, b, h => by
    rw [List.lookup_cons] at h
    split at h
    · rename_i e
      cases h
      have : x = y := by simpa using e
      subst this
      exact List.mem_cons_self
    · exact List.mem_cons_of_mem _ (lookup_mem h)
theorem bi_ok (hca : Γ.calm = true) (g : Good gq Γ C G D X W k sc own) {x : Str} {p : Pos} {b : BI} {a : Expr} {es : List Expr} {ms : Env → Out (List R)} (hb : biTab.lookup x = some b) (hg : isGl sc x = true) (hp : plainN x = true) (hs : noStar (a :: es) = true) (ha : PA X (a :: es) (tA X.K W ms)) :
    PE X (.Call (.Name x p) (a :: es) [] pos) (tE X.K W (mBI b ms)) := by
  have h := biTab_ok
  rw [List.all_eq_true] at h
  have h1 := h _ (lookup_mem hb)
  unfold biKind at h1
  simp only [Bool.and_eq_true, decide_eq_true_eq] at h1
  obtain ⟨⟨⟨h2, h3⟩, h4⟩, h5⟩ := h1
  have hm : X.mg x = none := g.blt x (by simpa using h5)
  have hc := cr_BI (X := X) (g.calm hca) b h3
  cases ev : biVal b with
  | builtin id =>
    rw [ev] at h2 hc
    exact se_biB hc (g.gl_ hg) hm (by simpa using h2) ha hs h4 (plainN_1 hp).1
  | type id =>
    rw [ev] at h2 hc
    exact se_biT hc (g.gl_ hg) hm (by simpa using h2) ha hs h4 (plainN_1 hp).1
  | _ => rw [ev] at h2; simp at h2
theorem isTys_ok : (isTys.all fun t => decide (bootBuiltins (Str.ofString t) = some (.type t)) && bNames.contains (Str.ofString t) && plainN (Str.ofString t) && decide (Str.ofString t ≠ "__name__")) = true := by decide +kernel
theorem ty_ok (g : Good gq Γ C G D X W k sc own) {e : Expr} {t : String} (h : tyOf sc e = some t) : ∃ y p, e = .Name y p ∧ t ∈ isTys ∧ PE X (.Name y p) (tC (.ty t)) := by
  unfold tyOf at h
  split at h
  · rename_i y p
    obtain ⟨h1, h2⟩ := gd_some.mp h
    have hm := List.mem_of_find?_eq_some h2
    have he := List.find?_some h2
    have he : Str.ofString t = y := by simpa using he
    subst he
    have q := isTys_ok
    rw [List.all_eq_true] at q
    have q1 := q t hm
    simp only [Bool.and_eq_true, decide_eq_true_eq] at q1
    obtain ⟨⟨⟨q1, q2⟩, q3⟩, q4⟩ := q1
    exact ⟨_, p, rfl, hm, pe_bltn (g.gl_ h1) (g.blt _ (by simpa using q2)) q1 rfl q4 (plainN_1 q3).1⟩
  · cases h
theorem tys_ok (g : Good gq Γ C G D X W k sc own) : ∀ {es : List Expr} {ts : List String}, tysOf sc es = some ts → (PA X es fun _ H Q => Q (ts.map V.ty) H) ∧ (∀ t ∈ ts, t ∈ isTys) ∧ ts.length = es.length
  | [], ts, h => by cases h; exact ⟨pa_nil, by simp, rfl⟩
  | e :: es, ts, h => by
    simp only [tysOf, Option.bind_eq_some_iff, Option.map_eq_some_iff] at h
    obtain ⟨t, ht, ts', hts, rfl⟩ := h
    obtain ⟨y, p, rfl, hm, hp⟩ := ty_ok g ht
    obtain ⟨q1, q2, q3⟩ := tys_ok g hts
    exact ⟨pa_cons hp q1, by simpa using ⟨hm, q2⟩, by simp [q3]⟩
theorem isin_ok (S : Snd gq Γ C G D r) (g : Good gq Γ C G D X W k sc own) {p : Pos} {a : Expr} {rest : List Expr} {ie : IE} (hg : isGl sc "isinstance" = true) (hs : noStarE a = true) (h : isinE r sc a rest = some ie) : PE X (.Call (.Name "isinstance" p) (a :: rest) [] pos) (tE X.K W (ev C G D ie)) := by
  have hmi : X.mg "isinstance" = none := g.blt _ (by unfold bNames; simp)
  cases rest with
  | nil => cases h
  | cons b c =>
    cases c with
    | cons _ _ => cases h
    | nil =>
      obtain ⟨ia, ha, h2⟩ := Option.bind_eq_some_iff.mp h
      cases b with
      | Tuple ns k1 p1 =>
        obtain ⟨hz, h2⟩ := gd_some.mp h2
        obtain ⟨ts, ht, rfl⟩ := Option.map_eq_some_iff.mp h2
        obtain ⟨q1, q2, q3⟩ := tys_ok g ht
        have hz : ns.length < 100 := by simpa using hz
        exact se_isinN (g.gl_ hg) hmi (S.e g ha) q1 hs q2 (by rw [q3]; exact Nat.le_trans (Nat.le_of_lt hz) (by decide))
      | Name y p2 =>
        obtain ⟨t, ht, rfl⟩ := Option.map_eq_some_iff.mp h2
        obtain ⟨y', p', e, hm, hp'⟩ := ty_ok g ht
        cases e
        exact se_isin1 (g.gl_ hg) hmi (S.e g ha) hp' hs hm
      | _ => cases h2
theorem callN_ok (hca : Γ.calm = true) (S : Snd gq Γ C G D r) (g : Good gq Γ C G D X W k sc own) {x : Str} {p : Pos} {args : List Expr} {ie : IE} (h : callN Γ r sc x args = some ie) : PE X (.Call (.Name x p) args [] pos) (tE X.K W (ev C G D ie)) := by
  unfold callN at h
  obtain ⟨h1, h2⟩ := gd_some.mp h
  simp only [Bool.and_eq_true] at h1
  obtain ⟨⟨hg, hp⟩, hs⟩ := h1
  split at h2
  · rename_i i hi
    obtain ⟨ies, hes, rfl⟩ := Option.map_eq_some_iff.mp h2
    obtain ⟨pa, hl⟩ := trL_ok S g hes
    obtain ⟨f, fd, ps, hm, hk, Fn, hd⟩ := g.fn x i hi
    obtain ⟨dvs, ds, hv, hdd, hb⟩ := hd ies.len
    cases args with
    | nil => 
      cases hes
      exact se_call0 Fn ((g.room hca).mono (Nat.le_succ k)) g.gd (g.gl_ hg) hm hk hb hv hdd g.takes (plainN_1 hp).1
    | cons a rest => exact se_call Fn ((g.room hca).mono (Nat.le_succ k)) g.gd (g.gl_ hg) hm hk hb hv hdd g.takes pa (plainN_1 hp).1 hs
  · split at h2
    · rename_i i hi
      obtain ⟨ies, hes, rfl⟩ := Option.map_eq_some_iff.mp h2
      obtain ⟨pa, hl⟩ := trL_ok S g hes
      obtain ⟨Cc, f, fd, ps, hm, hcn, hM, Fn, hd⟩ := g.co x i hi
      obtain ⟨dvs, ds, hv, hdd, hb⟩ := hd (ies.len + 1)
      cases args with
      | nil =>
        cases hes
        exact se_make0 hM Fn (g.room hca) g.gd (g.gl_ hg) hm hcn hb hv hdd g.takes (plainN_1 hp).1
      | cons a rest => exact se_make hM Fn (g.room hca) g.gd (g.gl_ hg) hm hcn hb hv hdd g.takes pa (plainN_1 hp).1 hs
    split at h2
    · cases h2
    · rename_i a rest
      split at h2
      · rename_i b hb
        obtain ⟨ies, hes, rfl⟩ := Option.map_eq_some_iff.mp h2
        exact bi_ok hca g hb hg hp hs (trL_ok S g hes).1
      · split at h2
        · rename_i e
          subst e
          obtain ⟨hgc, h2⟩ := gd_some.mp h2
          obtain ⟨ies, hes, rfl⟩ := Option.map_eq_some_iff.mp h2
          exact se_biG (b := .gcd) (cr_BI (g.calm hca) .gcd (by decide)) (g.gl_ hg) (g.gcd hgc) (trL_ok S g hes).1 hs (plainN_1 hp).1
        · split at h2
          · rename_i e
            subst e
            obtain ⟨hgc, h2⟩ := gd_some.mp h2
            obtain ⟨ies, hes, rfl⟩ := Option.map_eq_some_iff.mp h2
            have hm : X.mg "repr" = none := g.blt _ (by unfold bNames; simp)
            exact se_biB (b := .repr) (cr_repr (g.gd (g.rq hgc)) (g.sm (g.rq hgc)) g.hu) (g.gl_ hg) hm (by decide +kernel) (trL_ok S g hes).1 hs (by decide +kernel) (plainN_1 hp).1
          obtain ⟨hx, h2⟩ := gd_some.mp h2
          have hx : x = "isinstance" := by simpa using hx
          subst hx
          have hs' : noStarE a = true ∧ noStar rest = true := by simpa [noStar] using hs
          exact isin_ok S g hg hs'.1 h2
end
end G
namespace G
open PySem PySem.Spec PyProof.Rows L2

section
variable {gq : Bool} {Γ : Gam} {C : Nat → List Iv → Res} {G : Nat → T} {D : Nat → Nat → List T}
variable {X : Cx} {W : WX} {k : Nat} {sc own : Scope} {r : Tr} {pos : Pos}
theorem callM_ok (S : Snd gq Γ C G D r) (g : Good gq Γ C G D X W k sc own) {o : Expr} {name : Str} {apos : Pos} {args : List Expr} {ie : IE} (hl : (apos.endLine == pos.line) = true) (h : callM r sc o name args = some ie) :
    PE X (.Call (.Attribute o name apos) args [] pos) (tE X.K W (ev C G D ie)) := by
  unfold callM at h
  obtain ⟨h1, h2⟩ := gd_some.mp h
  rw [Bool.and_eq_true] at h1
  obtain ⟨hb, hs⟩ := h1
  clear h
  revert h2 hs
  intro h3 hs3
  match args, h3, hs3 with
  | [], q1, hs =>
    obtain ⟨hn, q2⟩ := gd_some.mp q1
    have hn : name = "bit_length" := by simpa using hn
    subst hn
    obtain ⟨io, ho, rfl⟩ := Option.map_eq_some_iff.mp q2
    exact se_bits (S.e g ho) hb hl
  | [a], q1, hs =>
    have hs' : noStarE a = true := by simpa [noStar] using hs
    have q9 : (if name = ("join" : Str) then (r.e sc false o).bind fun io => (r.e sc false a).map (IE.met1 .join io)
      else gd (name == ("split" : Str)) ((r.e sc false o).bind fun io => (r.e sc false a).map (IE.met1 .split io))) = some ie := q1
    by_cases e : name = ("join" : Str)
    · rw [if_pos e] at q9
      subst e
      simp only [Option.bind_eq_some_iff, Option.map_eq_some_iff] at q9
      obtain ⟨io, ho, ia, ha, rfl⟩ := q9
      exact se_join (S.e g ho) (S.e g ha) hb hs' hl
    · rw [if_neg e] at q9
      obtain ⟨hn, q2⟩ := gd_some.mp q9
      have hn : name = "split" := by simpa using hn
      subst hn
      simp only [Option.bind_eq_some_iff, Option.map_eq_some_iff] at q2
      obtain ⟨io, ho, ia, ha, rfl⟩ := q2
      exact se_split (S.e g ho) (S.e g ha) hb hs' hl
  | [a, b], q1, hs =>
    obtain ⟨hn, q2⟩ := gd_some.mp q1
    have hn : name = "get" := by simpa using hn
    subst hn
    simp only [Option.bind_eq_some_iff, Option.map_eq_some_iff] at q2
    obtain ⟨io, ho, ia, ha, ib, hb', rfl⟩ := q2
    exact se_dget2 g.hu1 (S.e g ho) (S.e g ha) (S.e g hb') hb hs hl
  | _ :: _ :: _ :: _, q1, hs => cases q1
theorem call_ok (hca : Γ.calm = true) (S : Snd gq Γ C G D r) (g : Good gq Γ C G D X W k sc own) {f : Expr} {args : List Expr} {kws : List Keyword} {ie : IE} (h : callE Γ r sc f args kws pos = some ie) : PE X (.Call f args kws pos) (tE X.K W (ev C G D ie)) := by
  unfold callE at h
  split at h
  · split at h
    · exact callN_ok hca S g h
    · split at h
      · obtain ⟨hl, h2⟩ := gd_some.mp h
        exact callM_ok S g hl h2
      · rename_i o name apos hne
        obtain ⟨h1, h2⟩ := gd_some.mp h
        simp only [Bool.and_eq_true, decide_eq_true_eq] at h1
        obtain ⟨hq, hl9, hb, h1⟩ := h1
        simp only [Option.bind_eq_some_iff, Option.map_eq_some_iff] at h2
        obtain ⟨io, ho, ies, hes, rfl⟩ := h2
        obtain ⟨pa, hl⟩ := trL_ok S g hes
        obtain ⟨pl, ht⟩ := meth_ev (m := name) (apos := apos) (pos := pos) (args := args) (env := X.env) hb h1 hl9 hq
        have hm := fun nm i hi => g.mo name nm i hi (ies.len + 1)
        cases args with
        | nil =>
          cases hes
          exact se_meth0 (dflOf := fun i => D i (IEs.nil.len + 1)) hm ((g.room hca).mono (Nat.le_succ k)) g.gd g.takes (S.e g ho) ht
        | cons a rest => exact se_meth (dflOf := fun i => D i (ies.len + 1)) hm ((g.room hca).mono (Nat.le_succ k)) g.gd g.takes (S.e g ho) pa h1 ht
    · cases h
  · split at h
    · rename_i kw kf p1 p2 _ _ x p3 e
      obtain ⟨h1, h2⟩ := gd_some.mp h
      simp only [Bool.and_eq_true] at h1
      obtain ⟨⟨⟨⟨⟨⟨c1, c2⟩, c3⟩, c4⟩, c5⟩, c6⟩, c7⟩ := h1
      have c2 : x = "sorted" := by simpa using c2
      have c3 : kw = "key" := by simpa using c3
      subst c2 c3
      obtain ⟨ie, he, rfl⟩ := Option.map_eq_some_iff.mp h2
      obtain ⟨fa, hm, hL⟩ := g.lf kf (by simpa using c7)
      exact se_sortLF hL (g.room hca).depth g.hu (g.gl_ c1) (g.blt _ (by unfold bNames biTab; simp)) (g.gl_ c4) hm (plainN_1 c5).1 (S.e g he) c6
    · cases h
  · cases h
theorem opt_ok (S : Snd gq Γ C G D r) (g : Good gq Γ C G D X W k sc own) {o : Option Expr} {io : IO} (h : optE r sc o = some io) : PO X o (tO X.K W (evO C G D io)) := by
  cases o with
  | none => cases h; exact so_none
  | some e =>
    obtain ⟨ie, he, rfl⟩ := Option.map_eq_some_iff.mp h
    exact so_some (S.e g he)
theorem sub_ok (S : Snd gq Γ C G D r) (g : Good gq Γ C G D X W k sc own) {a i : Expr} {ie : IE} (h : subE r sc a i = some ie) : PE X (.Subscript a i pos) (tE X.K W (ev C G D ie)) := by
  unfold subE at h
  split at h
  · simp only [Option.bind_eq_some_iff, Option.map_eq_some_iff] at h
    obtain ⟨ia, ha, il, hl, ih, hh, rfl⟩ := h
    exact se_sl (S.e g ha) (opt_ok S g hl) (opt_ok S g hh)
  · obtain ⟨h1, h2⟩ := gd_some.mp h
    simp only [Option.bind_eq_some_iff, Option.map_eq_some_iff] at h2
    obtain ⟨ia, ha, ii, hi, rfl⟩ := h2
    exact se_ix g.hu1 (S.e g ha) (S.e g hi) (plainIx (by simpa using h1))
/-! ## targets, sources, comprehensions -/
theorem loc_ok (g : Good gq Γ C G D X W k sc own) {x : Str} {i : Nat} (h : locOf Γ own x = some i) : X.N[i]? = some x ∧ Loc X.env.scope x ∧ (X.fn x = true ∨ X.env.scope.names.lookup x = some .local) ∧ plainN x = true := by
  unfold locOf at h
  obtain ⟨h1, h2⟩ := gd_some.mp h
  rw [Bool.and_eq_true] at h1
  obtain ⟨q1, q2⟩ := g.loc x h1.1
  exact ⟨by rw [g.N]; exact ixOf_get h2, q1, q2, h1.2⟩
theorem tgtNs_ok (g : Good gq Γ C G D X W k sc own) : ∀ {es : List Expr} {is : List Nat}, tgtNs Γ own es = some is → PGs X es (gNames is) ∧ (assignEach es X.env).length = is.length ∧ (assignEach es X.env).findIdx? (·.1) = none
  | [], is, h => by cases h; exact ⟨pgs_nil, rfl, rfl⟩
  | e :: es, is, h => by
    cases e with
    | Name x p =>
      simp only [tgtNs, Option.bind_eq_some_iff, Option.map_eq_some_iff] at h
      obtain ⟨i, hi, is', his, rfl⟩ := h
      obtain ⟨q1, q2, q3⟩ := tgtNs_ok g his
      obtain ⟨l1, l2, l3, l4⟩ := loc_ok g hi
      refine ⟨pgs_cons (pg_name g.nd l1 l2 l3) q1 rfl, ?_, ?_⟩
      · show ((false, assign (.Name x p) X.env) :: assignEach es X.env).length = _
        simp [q2]
      · show ((false, assign (.Name x p) X.env) :: assignEach es X.env).findIdx? (·.1) = none
        rw [List.findIdx?_cons]
        simp [q3]
    | _ => simp [tgtNs] at h
theorem tgt_sound (hca : Γ.calm = true) (g : Good gq Γ C G D X W k sc own) {tg : Expr} {t : Tgt} (h : tgtE Γ own tg = some t) : PG X tg (gTgt X.K t) := by
  unfold tgtE at h
  split at h
  · obtain ⟨i, hi, rfl⟩ := Option.map_eq_some_iff.mp h
    obtain ⟨l1, l2, l3, l4⟩ := loc_ok g hi
    exact pg_name g.nd l1 l2 l3
  · obtain ⟨is, his, rfl⟩ := Option.map_eq_some_iff.mp h
    obtain ⟨q1, q2, q3⟩ := tgtNs_ok g his
    exact pg_tup (g.calm hca) q1 q2 q3
  · cases h
theorem srcN_ok (S : Snd gq Γ C G D r) (g : Good gq Γ C G D X W k sc own) {tg : Expr} {x : Str} {p : Pos} {args : List Expr} {s : Src} (h : srcN r sc tg x args = some s) : PI X tg (.Call (.Name x p) args [] pos) (tSrc X.K W (evSrc C G D s)) := by
  unfold srcN at h
  obtain ⟨h1, h2⟩ := gd_some.mp h
  rw [Bool.and_eq_true] at h1
  obtain ⟨hg, hs⟩ := h1
  clear h
  revert h2 hs
  intro h3 hs3
  match args, h3, hs3 with
  | [], q1, _ => cases q1
  | [a], q1, hs =>
    obtain ⟨hn, q2⟩ := gd_some.mp q1
    have hn : x = "range" := by simpa using hn
    subst hn
    obtain ⟨ia, ha, rfl⟩ := Option.map_eq_some_iff.mp q2
    exact pi_rng1 (g.gl_ hg) (g.blt _ (by unfold bNames; simp)) (S.e g ha) (by simpa [noStar] using hs)
  | [a, b], q1, hs =>
    have hs' : noStarE a = true ∧ noStarE b = true := by simpa [noStar] using hs
    have q9 : (if x = ("range" : Str) then (r.e sc false a).bind fun ia => (r.e sc false b).map (Src.rng2 ia)
      else gd (x == ("zip" : Str) && isTup tg) ((r.e sc false a).bind fun ia => (r.e sc false b).map (Src.zip ia))) = some s := q1
    by_cases e : x = ("range" : Str)
    · rw [if_pos e] at q9
      subst e
      simp only [Option.bind_eq_some_iff, Option.map_eq_some_iff] at q9
      obtain ⟨ia, ha, ib, hb, rfl⟩ := q9
      exact pi_rng2 (g.gl_ hg) (g.blt _ (by unfold bNames; simp)) (S.e g ha) (S.e g hb) hs'.1 hs'.2
    · rw [if_neg e] at q9
      obtain ⟨hn, q2⟩ := gd_some.mp q9
      rw [Bool.and_eq_true] at hn
      have hx : x = "zip" := by simpa using hn.1
      subst hx
      simp only [Option.bind_eq_some_iff, Option.map_eq_some_iff] at q2
      obtain ⟨ia, ha, ib, hb, rfl⟩ := q2
      cases tg with
      | Tuple es kk tp => exact pi_zip (g.gl_ hg) (g.blt _ (by unfold bNames; simp)) (S.e g ha) (S.e g hb) hs'.1 hs'.2
      | _ => exact absurd hn.2 (by simp [isTup])
  | _ :: _ :: _ :: _, q1, _ => cases q1
theorem src_sound (S : Snd gq Γ C G D r) (g : Good gq Γ C G D X W k sc own) {tg iter : Expr} {s : Src} (h : srcE r sc tg iter = some s) : PI X tg iter (tSrc X.K W (evSrc C G D s)) ∧ ∀ v, foldedSetIterable iter X.env v = pure v := by
  unfold srcE at h
  obtain ⟨h1, h2⟩ := gd_some.mp h
  refine ⟨?_, iter_plain (fun es kk p e => by subst e; simp [notSet] at h1) _⟩
  split at h2
  · split at h2
    · cases h2
      exact srcN_ok S g (by assumption)
    · obtain ⟨ie, he, rfl⟩ := Option.map_eq_some_iff.mp h2
      exact pi_seq (S.e g he)
  · obtain ⟨ie, he, rfl⟩ := Option.map_eq_some_iff.mp h2
    exact pi_seq (S.e g he)
theorem ownOf_ok : ∀ {l : List (Str × NameKind)}, (∀ p ∈ ownOf Γ l, Γ.N[p.2]? = some p.1) ∧ ∀ y ∈ l, y.2 = .local ∨ y.2 = .cell → y.1 ∈ (ownOf Γ l).map (·.1) ∨ y.1 ∉ Γ.N
  | [] => by simp [ownOf]
  | (x, kd) :: l => by
    obtain ⟨h1, h2⟩ := ownOf_ok (l := l)
    have hit : ∀ i, ixOf Γ.N x = some i → (∀ p ∈ (x, i) :: ownOf Γ l, Γ.N[p.2]? = some p.1) ∧ ∀ y ∈ (x, kd) :: l, y.2 = .local ∨ y.2 = .cell → y.1 ∈ ((x, i) :: ownOf Γ l).map (·.1) ∨ y.1 ∉ Γ.N := fun i hi => by
      refine ⟨fun p hp => ?_, fun y hy hk => ?_⟩
      · rcases List.mem_cons.mp hp with rfl | hp
        · exact ixOf_get hi
        · exact h1 p hp
      · rcases List.mem_cons.mp hy with rfl | hy
        · exact .inl (by simp)
        · exact (h2 y hy hk).imp (fun z => List.mem_cons_of_mem _ z) id
    have mis : ixOf Γ.N x = none → (∀ p ∈ ownOf Γ l, Γ.N[p.2]? = some p.1) ∧ ∀ y ∈ (x, kd) :: l, y.2 = .local ∨ y.2 = .cell → y.1 ∈ (ownOf Γ l).map (·.1) ∨ y.1 ∉ Γ.N := fun hi => by
      refine ⟨h1, fun y hy hk => ?_⟩
      rcases List.mem_cons.mp hy with rfl | hy
      · exact .inr (ixOf_none hi)
      · exact h2 y hy hk
    have oth : (kd ≠ .local) → (kd ≠ .cell) → (∀ p ∈ ownOf Γ l, Γ.N[p.2]? = some p.1) ∧ ∀ y ∈ (x, kd) :: l, y.2 = .local ∨ y.2 = .cell → y.1 ∈ (ownOf Γ l).map (·.1) ∨ y.1 ∉ Γ.N := fun n1 n2 => by
      refine ⟨h1, fun y hy hk => ?_⟩
      rcases List.mem_cons.mp hy with rfl | hy
      · exact absurd hk (by simp [n1, n2])
      · exact h2 y hy hk
    cases kd with
    | «local» =>
      unfold ownOf
      cases e : ixOf Γ.N x with
      | some i => exact hit i e
      | none => exact mis e
    | cell =>
      unfold ownOf
      cases e : ixOf Γ.N x with
      | some i => exact hit i e
      | none => exact mis e
    | free => exact oth (by decide) (by decide)
    | globalExplicit => exact oth (by decide) (by decide)
    | globalImplicit => exact oth (by decide) (by decide)
theorem blk_ok (g : Good gq Γ C G D X W k sc own) {scope : Scope} (h : blkB sc scope = true) : BlkOk X.N X.env.scope scope (ownOf Γ scope.names) ∧ scope.kind = .function := by
  unfold blkB at h
  rw [Bool.and_eq_true, List.all_eq_true] at h
  have hk : scope.kind = .function := by simpa using h.1
  refine ⟨⟨hk, fun y hy => ?_, fun p hp => ?_, fun y hy e => ?_, fun y hy e => ?_⟩, hk⟩
  · have := h.2 y hy
    rw [Bool.and_eq_true] at this
    simpa using this.1
  · rw [g.N]; exact (ownOf_ok (Γ := Γ)).1 p hp
  · have := h.2 y hy
    rw [Bool.and_eq_true, if_pos e] at this
    rw [g.scope]
    simpa using this.2
  · rw [g.N]; exact (ownOf_ok (Γ := Γ)).2 y hy e
theorem ifs_ok (S : Snd gq Γ C G D r) (g : Good gq Γ C G D X W k sc own) {ifs : List Expr} {c : IBO} (h : ifsE r sc ifs = some c) : PTs X ifs (_root_.G.tB X.K W (evC C G D c)) := by
  unfold ifsE at h
  split at h
  · cases h
    exact ⟨fun pins s σ H Q I ⟨env, F, fp, E, q⟩ => pts_nil.run pins s σ H Q I (q H F fp E Stp.refl)⟩
  · obtain ⟨ib, hb, rfl⟩ := Option.map_eq_some_iff.mp h
    exact pts_one (S.t g hb)
  · cases h
/-- what a comprehension's parts are -/
structure LcOk (Γ : Gam) (C : Nat → List Iv → Res) (G : Nat → T) (D : Nat → Nat → List T) (X : Cx) (W : WX) (elt tg iter : Expr) (ifs : List Expr) (scope : Scope) (s : Src) (t : Tgt) (c : IBO) (e : IE) : Prop where
  src : PI X tg iter (tSrc X.K W (evSrc C G D s))
  fold : ∀ v, foldedSetIterable iter X.env v = pure v
  blk : BlkOk X.N X.env.scope scope (ownOf Γ scope.names)
  tgt : ∀ (s : Shared) (H : Hp) (C : Addr) (cl : List (Str × Addr)) (fp : List Addr), PG (X.blk s H scope (compEnvC scope cl C X.env) fp) tg (gTgt X.K t)
  cond : ∀ (s : Shared) (H : Hp) (a : Addr) (cl : List (Str × Addr)) (fp : List Addr), PTs (X.blk s H scope (compEnvC scope cl a X.env) fp) ifs (_root_.G.tB X.K W0 (evC C G D c))
  elt : ∀ (s : Shared) (H : Hp) (a : Addr) (cl : List (Str × Addr)) (fp : List Addr), PE (X.blk s H scope (compEnvC scope cl a X.env) fp) elt (tE X.K W0 (ev C G D e))
  tgi : ∀ i ∈ tgIs t, i ∈ (ownOf Γ scope.names).map (·.2)
theorem lc_ok (hca : Γ.calm = true) (S : Snd gq Γ C G D r) (g : Good gq Γ C G D X W k sc own) {elt tg iter : Expr} {ifs : List Expr} {scope : Scope} {ie : IE} (h : lcE Γ r sc elt tg iter ifs scope = some ie) :
    ∃ s t c e, ie = .lc s t c e (ownOf Γ scope.names) ∧ LcOk Γ C G D X W elt tg iter ifs scope s t c e := by
  unfold lcE at h
  obtain ⟨h1, h2⟩ := gd_some.mp h
  obtain ⟨s, hs, h2⟩ := Option.bind_eq_some_iff.mp h2
  obtain ⟨t, ht, h2⟩ := Option.bind_eq_some_iff.mp h2
  obtain ⟨h3, h2⟩ := gd_some.mp h2
  simp only [Option.bind_eq_some_iff, Option.map_eq_some_iff] at h2
  obtain ⟨c, hc, e, he, rfl⟩ := h2
  obtain ⟨b1, b2⟩ := blk_ok g h1
  obtain ⟨s1, s2⟩ := src_sound S g hs
  rw [List.all_eq_true] at h3
  exact ⟨s, t, c, e, rfl, s1, s2, b1, fun s' H a cl fp => tgt_sound hca (g.blk hca b2 s' H a cl fp) ht, fun s' H a cl fp => ifs_ok S (g.blk hca b2 s' H a cl fp) hc, fun s' H a cl fp => S.e (g.blk hca b2 s' H a cl fp) he, fun i hi => by simpa using h3 i hi⟩
theorem lc_pe (hca : Γ.calm = true) (g : Good gq Γ C G D X W k sc own) {elt tg iter : Expr} {ifs : List Expr} {scope : Scope} {s : Src} {t : Tgt} {c : IBO} {e : IE} (L : LcOk Γ C G D X W elt tg iter ifs scope s t c e) :
    PE X (.ListComp elt [⟨tg, iter, ifs, 0⟩] scope pos) (tE X.K W (ev C G D (.lc s t c e (ownOf Γ scope.names)))) :=
  pe_imp (pe_lc (g.calm hca) g.nd L.src L.blk L.tgt L.cond L.elt L.fold) fun σ H Q q => lc_imp L.tgi q
theorem dc_ok (hca : Γ.calm = true) (S : Snd gq Γ C G D r) (g : Good gq Γ C G D X W k sc own) {kx vx tg iter : Expr} {ifs : List Expr} {scope : Scope} {ie : IE} (h : dcE Γ r sc kx vx tg iter ifs scope = some ie) :
    ∃ s t c ki vi, ie = .dc s t c ki vi (ownOf Γ scope.names) ∧ LcOk Γ C G D X W kx tg iter ifs scope s t c ki ∧ (∀ (s : Shared) (H : Hp) (a : Addr) (cl : List (Str × Addr)) (fp : List Addr), PE (X.blk s H scope (compEnvC scope cl a X.env) fp) vx (tE X.K W0 (ev C G D vi))) := by
  unfold dcE at h
  obtain ⟨h1, h2⟩ := gd_some.mp h
  obtain ⟨s, hs, h2⟩ := Option.bind_eq_some_iff.mp h2
  obtain ⟨t, ht, h2⟩ := Option.bind_eq_some_iff.mp h2
  obtain ⟨h3, h2⟩ := gd_some.mp h2
  simp only [Option.bind_eq_some_iff, Option.map_eq_some_iff] at h2
  obtain ⟨c, hc, ki, hk, vi, hv, rfl⟩ := h2
  obtain ⟨b1, b2⟩ := blk_ok g h1
  obtain ⟨s1, s2⟩ := src_sound S g hs
  rw [List.all_eq_true] at h3
  exact ⟨s, t, c, ki, vi, rfl, ⟨s1, s2, b1, fun s' H a cl fp => tgt_sound hca (g.blk hca b2 s' H a cl fp) ht, fun s' H a cl fp => ifs_ok S (g.blk hca b2 s' H a cl fp) hc, fun s' H a cl fp => S.e (g.blk hca b2 s' H a cl fp) hk, fun i hi => by simpa using h3 i hi⟩, fun s' H a cl fp => S.e (g.blk hca b2 s' H a cl fp) hv⟩
theorem dc_pe (hca : Γ.calm = true) (g : Good gq Γ C G D X W k sc own) {kx vx tg iter : Expr} {ifs : List Expr} {scope : Scope} {s : Src} {t : Tgt} {c : IBO} {ki vi : IE} (L : LcOk Γ C G D X W kx tg iter ifs scope s t c ki)
    (hv : ∀ (s : Shared) (H : Hp) (a : Addr) (cl : List (Str × Addr)) (fp : List Addr), PE (X.blk s H scope (compEnvC scope cl a X.env) fp) vx (tE X.K W0 (ev C G D vi))) :
    PE X (.DictComp kx vx [⟨tg, iter, ifs, 0⟩] scope pos) (tE X.K W (ev C G D (.dc s t c ki vi (ownOf Γ scope.names)))) :=
  pe_imp (pe_dc (g.calm hca) g.nd L.src L.blk L.tgt L.cond L.elt hv L.fold) fun σ H Q q => dc_imp L.tgi q
theorem lockW_ok {iter e : Expr} {ie : IE} (h : PE X e (tE X.K W (ev C G D ie))) : PE X e (tE X.K W (ev C G D (lockW Γ sc iter ie))) := by
  unfold lockW
  split
  · split
    · split
      · exact se_lockd h
      · exact h
    · exact h
  · exact h
theorem flat_ok (S : Snd gq Γ C G D r) (g : Good gq Γ C G D X W k sc own) : ∀ {ks : List (Option Expr)} {vs : List Expr} {ies : IEs}, flatKV r sc ks vs = some ies →
    ∃ ps, evs C G D ies = flatM ps ∧ PPs X pos ks vs (ps.map fun p => (tE X.K W p.1, tE X.K W p.2)) ∧ ks.all (·.isSome) = true ∧ ks.length = vs.length
  | [], [], ies, h => by cases h; exact ⟨[], by funext env; rfl, pps_nil, rfl, rfl⟩
  | some k :: ks, v :: vs, ies, h => by
    simp only [flatKV, Option.bind_eq_some_iff, Option.map_eq_some_iff] at h
    obtain ⟨a, ha, b, hb, c, hc, rfl⟩ := h
    obtain ⟨ps, e, q1, q2, q3⟩ := flat_ok S g hc
    refine ⟨(ev C G D a, ev C G D b) :: ps, ?_, pps_cons (S.e g ha) (S.e g hb) q1, by simpa using q2, by simp [q3]⟩
    funext env
    simp only [evs, flatM, e]
  | [], _ :: _, _, h => by cases h
  | none :: _, _, _, h => by simp [flatKV] at h
  | some _ :: _, [], _, h => by cases h
theorem disp_ok (S : Snd gq Γ C G D r) (g : Good gq Γ C G D X W k sc own) {ks : List (Option Expr)} {vs : List Expr} {ie : IE} (h : dispE r sc ks vs = some ie) : PE X (.Dict ks vs pos) (tE X.K W (ev C G D ie)) := by
  unfold dispE at h
  split at h
  · rename_i hk
    obtain ⟨hv, h2⟩ := gd_some.mp h
    have hv : vs = [] := by simpa using hv
    subst hk hv
    cases h2
    exact se_dnew
  · rename_i hk
    obtain ⟨hl, h2⟩ := gd_some.mp h
    obtain ⟨ies, hes, rfl⟩ := Option.map_eq_some_iff.mp h2
    obtain ⟨ps, e, q1, q2, q3⟩ := flat_ok S g hes
    have := se_disp (W := W) q1 q2 q3 hk (by simpa using hl)
    unfold mDisp at this
    rw [← e] at this
    exact this
/-! ## f-strings -/
theorem fpart_ok (S : Snd gq Γ C G D r) (g : Good gq Γ C G D X W k sc own) {e : Expr} {ie : IE} (h : fpartE r sc e = some ie) : ∃ t, PE X e t ∧ ∀ σ H Q, tE X.K W (ev C G D ie) σ H (fun v H1 => (∃ y : Str, v = .str y ∧ y.length ≤ sizeLine ∧ Q (.str y) H1) ∨ ∃ i : Int, v = .int i ∧ i.natAbs.log2 < 1920 ∧ Q (.str (toString i)) H1) → t σ H Q := by
  unfold fpartE at h
  split at h
  · rename_i e c p
    obtain ⟨h1, h2⟩ := gd_some.mp h
    have hc : c = -1 := by simpa using h1
    subst hc
    exact ⟨_, pe_fmt (S.e g h2), fun σ H Q q => q⟩
  · cases h
    rename_i s j p
    refine ⟨_, se_con (W := W) (t := .str s) pe_str fun _ => .str _, fun σ H Q ⟨env, F, fp, E, q⟩ => ⟨env, F, fp, E, fun H' F' fp' E' s' v l rr tm => ?_⟩⟩
    have q1 := q H' F' fp' E' s' v l rr tm
    cases rr with
    | val d =>
      cases d
      rcases q1 with ⟨y, e1, _, q2⟩ | ⟨i, e1, _⟩
      · cases e1; exact q2
      · cases e1
  · cases h
theorem fparts_ok (S : Snd gq Γ C G D r) (g : Good gq Γ C G D X W k sc own) : ∀ {es : List Expr} {ies : IEs}, fpartsE r sc es = some ies → ∃ ts, PJ X es ts ∧ ∀ (acc : Str) {σ : L2.St} {H F H0 F0 : Hp} {env : Env} {fp : Nat → List Addr} {P0 : Fp} {Q0 : R → Env → Hp → Hp → (Nat → List Addr) → Prop} {Q : Str → Hp → Prop},
    EnvR X.K env σ H F fp → Stp P0 H0 F0 (fpOf env fp) H F → ((noexc (evs C G D ies env)).bind fun rs e1 => ofO ((valsR rs).bind fun ts => (joinF ts acc).map fun s => R.val (.str s)) e1).asks X.K W σ H0 F0 P0 Q0 →
    (∀ s e' H' F' fp', EnvR X.K e' σ H' F' fp' → Stp P0 H0 F0 (fpOf e' fp') H' F' → Q0 (.val (.str s)) e' H' F' fp' → Q s H') → tJs ts acc σ H Q
  | [], ies, h => by
    cases h
    refine ⟨[], .nil, ?_⟩
    intro acc σ H F H0 F0 env fp P0 Q0 Q E s q k
    exact k acc _ _ _ _ E s (q _ _ _ E s)
  | e :: es, ies, h => by
    simp only [fpartsE, Option.bind_eq_some_iff, Option.map_eq_some_iff] at h
    obtain ⟨a, ha, as, has, rfl⟩ := h
    obtain ⟨t, ht, tw⟩ := fpart_ok (W := W) S g ha
    obtain ⟨ts, hts, tsw⟩ := fparts_ok S g has
    refine ⟨t :: ts, .cons ht hts, ?_⟩
    intro acc σ H F H0 F0 env fp P0 Q0 Q E s q k
    refine tw _ _ _ ⟨env, F, fp, E, ?_⟩
    simp only [evs] at q
    cases e1 : ev C G D a env with
    | stuck => rw [e1] at q; exact q.elim
    | exc z e2 => rw [e1] at q; exact q.elim
    | ok ra e2 =>
      rw [e1] at q
      intro H' F' fp' E' s' v l rr tm
      have s2 := s.trans s'
      cases e3 : evs C G D as e2 with
      | stuck => simp only [e3, Out.bind, noexc] at q; exact q.elim
      | exc z e4 => simp only [e3, Out.bind, noexc] at q; exact q.elim
      | ok rs e4 =>
        have rest : ∀ acc' : Str, ((Out.ok rs e4).bind fun rs e1 => ofO ((valsR rs).bind fun ts => (joinF ts acc').map fun s => R.val (.str s)) e1).asks X.K W σ H0 F0 P0 Q0 → tJs ts acc' σ H' Q := fun acc' q' => by
          refine tsw acc' E' s2 ?_ k
          rw [e3]; exact q'
        simp only [e3, Out.bind, noexc] at q
        cases rr with
        | new d => exact q.elim
        | loan d => exact q.elim
        | @val _ t d =>
          simp only [valsR] at q
          cases ev2 : valsR rs with
          | none => rw [ev2] at q; exact q.elim
          | some tt =>
            rw [ev2] at q
            simp only [Option.map_some, Option.bind_some] at q
            cases d with
            | int i =>
              simp only [joinF] at q
              split at q
              · rename_i hi
                refine .inr ⟨i, rfl, hi.1, _, rfl, hi.2, rest _ ?_⟩
                simp only [Out.bind, ev2, Option.bind_some]
                exact q
              · exact q.elim
            | str y =>
              simp only [joinF] at q
              split at q
              · rename_i hi
                refine .inl ⟨y, rfl, hi.1, _, rfl, hi.2, rest _ ?_⟩
                simp only [Out.bind, ev2, Option.bind_some]
                exact q
              · exact q.elim
            | _ => exact q.elim
theorem fstr_ok (S : Snd gq Γ C G D r) (g : Good gq Γ C G D X W k sc own) {es : List Expr} {ies : IEs} (hl : 2 ≤ es.length) (h : fpartsE r sc es = some ies) : PE X (.JoinedStr es pos) (tE X.K W (ev C G D (.fstr ies))) := by
  match es, hl with
  | v1 :: v2 :: rest, _ =>
    obtain ⟨ts, hts, tsw⟩ := fparts_ok (W := W) S g h
    refine pe_imp (pe_joined hts) fun σ H Q ⟨env, F, fp, E, q⟩ => ?_
    exact tsw _ E Stp.refl q fun s e' H' F' fp' E' s' q' => q' _ [] (.val (.str s)) .nil
/-! ## in an except suite -/
theorem xnames_ok (g : Good gq Γ C G D X W k sc own) : ∀ {es : List Expr} {ys : List Str}, xnames Γ sc es = some ys → ∃ vs us, (PA X es fun _ H Q => Q vs H) ∧ vs.length = es.length ∧
    ∀ xi ∈ Γ.xs, ∀ C, ClsNm X.K C xi.nm → CRels X.K C vs us (ys.map fun y => xi.up.contains y)
  | [], ys, h => by cases h; exact ⟨[], [], pa_nil, rfl, fun _ _ _ _ => .nil⟩
  | e :: es, ys, h => by
    cases e with
    | Name y p =>
      obtain ⟨h1, h2⟩ := gd_some.mp h
      obtain ⟨ys', h3, rfl⟩ := Option.map_eq_some_iff.mp h2
      simp only [Bool.and_eq_true] at h1
      obtain ⟨⟨h4, h5⟩, h6⟩ := h1
      obtain ⟨vs, us, q1, q2, q3⟩ := xnames_ok g h3
      obtain ⟨v, u, hv, hk⟩ := (g.xn y (by simpa using h6)).ex
      rcases hv with ⟨D', hm, rfl, rfl⟩ | ⟨T, hm, hb, hn, rfl, rfl⟩
      · refine ⟨.ref D' :: vs, .ref D' :: us, pa_cons (pe_glob (v := .ref D') (g.gl_ h4) hm (show RelV (.ref D') (.ref D') from rfl) (plainN_1 h5).1) q1, by simp [q2], fun xi hx C hC => .cons (v := .ref D') (u := .ref D') ⟨fun z r => r, (hk xi hx C hC).1, .inl ⟨D', rfl, rfl⟩⟩ (q3 xi hx C hC)⟩
      · refine ⟨.ty T :: vs, .type T :: us, pa_cons (pe_bltn (v := .ty T) (g.gl_ h4) hm hb (show RelV (.ty T) (.type T) from rfl) hn (plainN_1 h5).1) q1, by simp [q2], fun xi hx C hC => .cons (v := .ty T) (u := .type T) ⟨fun z r => r, (hk xi hx C hC).1, .inr ⟨T, rfl, rfl⟩⟩ (q3 xi hx C hC)⟩
    | _ => cases h
theorem any_filter {xs : List XI} (hnd : (xs.map (·.nm)).Nodup) {xi : XI} (hx : xi ∈ xs) (p : XI → Bool) : (((xs.filter p).map (·.nm)).any fun y => decide (y = xi.nm)) = p xi := by
  induction xs with
  | nil => cases hx
  | cons a xs ih =>
    rw [List.map_cons, List.nodup_cons] at hnd
    have other : ∀ {x : XI}, x ∉ xs → x.nm ∉ xs.map (·.nm) → (((xs.filter p).map (·.nm)).any fun y => decide (y = x.nm)) = false := fun {x} _ hn => by
      rw [List.any_eq_false]
      intro y hy
      obtain ⟨z, hz, rfl⟩ := List.mem_map.mp hy
      have hz' := (List.mem_filter.mp hz).1
      simp only [decide_eq_true_eq]
      intro e
      exact hn (by rw [← e]; exact List.mem_map.mpr ⟨z, hz', rfl⟩)
    rcases List.mem_cons.mp hx with rfl | hx
    · have hxx : xi ∉ xs := fun z => hnd.1 (List.mem_map.mpr ⟨xi, z, rfl⟩)
      by_cases hp : p xi = true
      · rw [List.filter_cons_of_pos hp, hp]; simp
      · rw [List.filter_cons_of_neg hp, other hxx hnd.1]; simpa using hp
    · have hne : a.nm ≠ xi.nm := fun e => hnd.1 (by rw [e]; exact List.mem_map.mpr ⟨xi, hx, rfl⟩)
      by_cases hp : p a = true
      · rw [List.filter_cons_of_pos hp, List.map_cons, List.any_cons, ih hnd.2 hx]
        simp [hne]
      · rw [List.filter_cons_of_neg hp, ih hnd.2 hx]
theorem Good.cls (g : Good gq Γ C G D X W k sc own) (hcool : Γ.calm = false) : ∃ (a : Addr) (nm : Str) (fs : List (Str × T)) (xi : XI), G eK = encE a nm fs ∧ xi ∈ Γ.xs ∧ xi.nm = nm ∧ ErrX X a nm fs := by
  obtain ⟨a, nm, fs, h1, ⟨xi, h2, h3⟩, h4⟩ := g.er hcool
  exact ⟨a, nm, fs, xi, h1, h2, h3, h4⟩
theorem eis_ok (hcool : Γ.calm = false) (S : Snd gq Γ C G D r) (g : Good gq Γ C G D X W k sc own) {p : Pos} {args : List Expr} {ie : IE} (hg : isGl sc "isinstance" = true) (hs : noStar args = true) (h : eisE Γ r sc args = some ie) : PE X (.Call (.Name "isinstance" p) args [] pos) (tE X.K W (ev C G D ie)) := by
  obtain ⟨a, nm, fs, xi, gk, hxi, hnm, er⟩ := g.cls hcool
  have hmi : X.mg "isinstance" = none := g.blt _ (by unfold bNames; simp)
  obtain ⟨C', dd, oe, od, vs, w1, w2, c1, c2, c3, cn, xc, lk, di, nf⟩ := er.ex
  unfold eisE at h
  split at h
  · rename_i e b
    have hs' : noStarE e = true := by
      have : noStarE e = true ∧ noStar [b] = true := by simpa [noStar] using hs
      exact this.1
    cases b with
    | Tuple ns k1 p1 =>
      obtain ⟨ia, ha, h2⟩ := Option.bind_eq_some_iff.mp h
      obtain ⟨hz, h2⟩ := gd_some.mp h2
      obtain ⟨ys, hy, rfl⟩ := Option.map_eq_some_iff.mp h2
      obtain ⟨vs', us', q1, q2, q3⟩ := xnames_ok g hy
      have hz : ns.length < 100 := by simpa using hz
      have e1 : ev C G D (.eisin ia (xyes Γ ys)) = mEis (encE a nm fs) (xyes Γ ys) (ev C G D ia) := by rw [← gk]; funext env; rfl
      rw [e1]
      refine se_eisN w1 w2 c1 c2 c3 xc (g.gl_ hg) hmi (S.e g ha) hs' q1 (q3 xi hxi C' (by rw [hnm]; exact cn)) (by rw [q2]; exact Nat.le_trans (Nat.le_of_lt hz) (by decide)) ?_
      unfold xyes
      rw [← hnm, any_filter g.xnd hxi]
      simp [List.any_map]
    | Name y p1 =>
      obtain ⟨ia, ha, h2⟩ := Option.bind_eq_some_iff.mp h
      obtain ⟨ys, hy, rfl⟩ := Option.map_eq_some_iff.mp h2
      have e1 : ev C G D (.eisin ia (xyes Γ ys)) = mEis (encE a nm fs) (xyes Γ ys) (ev C G D ia) := by rw [← gk]; funext env; rfl
      rw [e1]
      obtain ⟨h1, h2⟩ := gd_some.mp hy
      obtain ⟨ys', h3, rfl⟩ := Option.map_eq_some_iff.mp h2
      cases h3
      simp only [Bool.and_eq_true] at h1
      obtain ⟨⟨h4, h5⟩, h6⟩ := h1
      obtain ⟨v, u, hv, hk⟩ := (g.xn y (by simpa using h6)).ex
      have hkx := (hk xi hxi C' (by rw [hnm]; exact cn)).1
      have ha' : (xyes Γ [y]).any (fun z => decide (z = nm)) = xi.up.contains y := by
        unfold xyes
        rw [← hnm, any_filter g.xnd hxi]
        simp
      rcases hv with ⟨D', hm, rfl, rfl⟩ | ⟨T, hm, hb, hn, rfl, rfl⟩
      · exact se_eis1 (v := .ref D') (u := .ref D') w1 w2 c1 c2 c3 xc (g.gl_ hg) hmi (S.e g ha) hs' (pe_glob (v := .ref D') (g.gl_ h4) hm (show RelV (.ref D') (.ref D') from rfl) (plainN_1 h5).1) ⟨fun z r => r, by rw [ha']; exact hkx, .inl ⟨D', rfl, rfl⟩⟩
      · exact se_eis1 (v := .ty T) (u := .type T) w1 w2 c1 c2 c3 xc (g.gl_ hg) hmi (S.e g ha) hs' (pe_bltn (v := .ty T) (g.gl_ h4) hm hb (show RelV (.ty T) (.type T) from rfl) hn (plainN_1 h5).1) ⟨fun z r => r, by rw [ha']; exact hkx, .inr ⟨T, rfl, rfl⟩⟩
    | _ => cases h
  · cases h
theorem isx_ok (hcool : Γ.calm = false) (S : Snd gq Γ C G D r) (g : Good gq Γ C G D X W k sc own) {x : Str} {p : Pos} {args : List Expr} {ie : IE} (h : isxE Γ r sc x args = some ie) : PE X (.Call (.Name x p) args [] pos) (tE X.K W (ev C G D ie)) := by
  unfold isxE at h
  obtain ⟨h1, h2⟩ := gd_some.mp h
  simp only [Bool.and_eq_true] at h1
  obtain ⟨⟨hg, hx⟩, hs⟩ := h1
  have hx : x = "isinstance" := by simpa using hx
  subst hx
  cases args with
  | nil => cases h2
  | cons a rest =>
    have hs' : noStarE a = true ∧ noStar rest = true := by simpa [noStar] using hs
    simp only at h2
    split at h2
    · rename_i e he
      cases h2
      exact isin_ok S g hg hs'.1 he
    · exact eis_ok hcool S g hg hs h2
theorem cool_ok (hcool : Γ.calm = false) (S : Snd gq Γ C G D r) (g : Good gq Γ C G D X W k sc own) {f : Expr} {args : List Expr} {kws : List Keyword} {ie : IE} (h : coolE Γ r sc f args kws = some ie) : PE X (.Call f args kws pos) (tE X.K W (ev C G D ie)) := by
  unfold coolE at h
  split at h
  · split at h
    · rename_i x p
      split at h
      · rename_i i e hi
        obtain ⟨h1, h2⟩ := gd_some.mp h
        simp only [Bool.and_eq_true] at h1
        obtain ⟨⟨hg, hp⟩, hs⟩ := h1
        obtain ⟨ie', he, rfl⟩ := Option.map_eq_some_iff.mp h2
        obtain ⟨a, nm, fs, xi, gk, hxi, hnm, er⟩ := g.cls hcool
        obtain ⟨f, fd, ps, hm, hk, hone, hb, Fn⟩ := g.ecs x i hi
        have e1 : ev C G D (.ecall i ie') = mEcall C i (encE a nm fs) (ev C G D ie') := by rw [← gk]; funext env; rfl
        rw [e1]
        exact se_ecall Fn (g.rh.mono (Nat.le_succ k)) g.gd (g.gl_ hg) hm hk hb hone g.takes er (by rw [← hnm]; exact List.mem_map.mpr ⟨xi, hxi, rfl⟩) (S.e g he) (plainN_1 hp).1 hs
      exact isx_ok hcool S g h
    · cases h
  · cases h
theorem efld_ok (hcool : Γ.calm = false) (g : Good gq Γ C G D X W k sc own) {x f : Str} {p : Pos} {ie : IE} (he : PE X (.Name x p) (tE X.K W (ev C G D ie))) : PE X (.Attribute (.Name x p) f pos) (tE X.K W (ev C G D (.efld ie f))) := by
  obtain ⟨a, nm, fs, xi, gk, hxi, hnm, er⟩ := g.cls hcool
  have e1 : ev C G D (.efld ie f) = mEfld (encE a nm fs) f (ev C G D ie) := by rw [← gk]; funext env; rfl
  rw [e1]
  exact se_efld er he rfl
/-! ## the whole -/
theorem stepT_ok (S : Snd gq Γ C G D r) (g : Good gq Γ C G D X W k sc own) {e : Expr} {ib : IB} (h : stepT r sc e = some ib) : PT X e (_root_.G.tB X.K W (evT C G D ib)) := by
  have val : ∀ {e : Expr} {ib : IB}, gd (plainT e) ((r.e sc false e).map IB.val) = some ib → PT X e (_root_.G.tB X.K W (evT C G D ib)) := fun {e ib} h => by
    obtain ⟨h1, h2⟩ := gd_some.mp h
    obtain ⟨ie, he, rfl⟩ := Option.map_eq_some_iff.mp h2
    exact st_val (S.e g he) h1
  cases e with
  | UnaryOp op a p =>
    cases op with
    | Not =>
      obtain ⟨ia, ha, rfl⟩ := Option.map_eq_some_iff.mp h
      exact st_not (S.t g ha)
    | _ => exact val h
  | BoolOp op es p =>
    cases op with
    | And => exact (andT_ok S g h).pt
    | Or => exact (orT_ok S g h).pt
  | Compare a ops cs p =>
    obtain ⟨ic, hc, rfl⟩ := Option.map_eq_some_iff.mp h
    exact (cmp_ok S g hc).2
  | _ => exact val h
theorem stepE_ok (S : Snd gq Γ C G D r) (g : Good gq Γ C G D X W k sc own) {mv : Bool} {e : Expr} {ie : IE} (h : stepE Γ r sc mv e = some ie) : PE X e (tE X.K W (ev C G D ie)) := by
  cases e with
  | Name x p => exact name_ok g h
  | Constant c n p => exact con_ok h
  | BinOp a op b p =>
    simp only [stepE, Option.bind_eq_some_iff, Option.map_eq_some_iff] at h
    obtain ⟨ia, ha, ib, hb, rfl⟩ := h
    exact se_bin (S.e g ha) (S.e g hb)
  | UnaryOp op a p =>
    cases op with
    | USub =>
      obtain ⟨ia, ha, rfl⟩ := Option.map_eq_some_iff.mp h
      exact se_neg (S.e g ha)
    | Not =>
      obtain ⟨ia, ha, rfl⟩ := Option.map_eq_some_iff.mp h
      exact se_not (S.e g ha)
    | _ => cases h
  | BoolOp op es p =>
    cases op with
    | And => exact andE_ok S g h
    | Or => exact orE_ok S g h
  | Compare a ops cs p => exact (cmp_ok S g h).1
  | IfExp c a b p =>
    simp only [stepE, Option.bind_eq_some_iff, Option.map_eq_some_iff] at h
    obtain ⟨ic, hc, ia, ha, ib, hb, rfl⟩ := h
    exact se_ifx (S.t g hc) (S.e g ha) (S.e g hb)
  | Tuple es n p =>
    obtain ⟨ies, hes, rfl⟩ := Option.map_eq_some_iff.mp h
    exact se_tup (trL_ok S g hes).1
  | List es p =>
    obtain ⟨ies, hes, rfl⟩ := Option.map_eq_some_iff.mp h
    exact se_lst (trL_ok S g hes).1
  | Dict ks vs p => exact disp_ok S g h
  | Call f args kws p =>
    simp only [stepE] at h
    by_cases hc : Γ.calm = true
    · rw [if_pos hc] at h
      exact call_ok hc S g h
    · rw [if_neg hc] at h
      exact cool_ok (by simpa using hc) S g h
  | Attribute o f p =>
    simp only [stepE] at h
    by_cases hc : Γ.calm = true
    · rw [if_pos hc] at h
      obtain ⟨h1, h2⟩ := gd_some.mp h
      obtain ⟨ie', h3, rfl⟩ := Option.map_eq_some_iff.mp h2
      exact se_fld (g.fo f) (S.e g h3) (base_of h1)
    · rw [if_neg hc] at h
      cases o with
      | Name x p1 =>
        obtain ⟨ie', h3, rfl⟩ := Option.map_eq_some_iff.mp h
        exact efld_ok (by simpa using hc) g (S.e g h3)
      | _ => cases h
  | Subscript a i p => exact sub_ok S g h
  | JoinedStr es p =>
    obtain ⟨h1, h2⟩ := gd_some.mp h
    obtain ⟨ies, hes, rfl⟩ := Option.map_eq_some_iff.mp h2
    exact fstr_ok S g (by simpa using h1) hes
  | ListComp elt gens scope p =>
    cases gens with
    | nil => cases h
    | cons c0 cs =>
      obtain ⟨tg, iter, ifs, n⟩ := c0
      cases cs with
      | cons _ _ => cases h
      | nil =>
        obtain ⟨h1, h2⟩ := gd_some.mp h
        rw [Bool.and_eq_true] at h1
        have hn : n = 0 := by simpa using h1.2
        subst hn
        obtain ⟨ie', h3, rfl⟩ := Option.map_eq_some_iff.mp h2
        obtain ⟨s, t, c, e, rfl, L⟩ := lc_ok h1.1 S g h3
        exact lockW_ok (lc_pe h1.1 g L)
  | DictComp kx vx gens scope p =>
    cases gens with
    | nil => cases h
    | cons c0 cs =>
      obtain ⟨tg, iter, ifs, n⟩ := c0
      cases cs with
      | cons _ _ => cases h
      | nil =>
        obtain ⟨h1, h2⟩ := gd_some.mp h
        rw [Bool.and_eq_true] at h1
        have hn : n = 0 := by simpa using h1.2
        subst hn
        obtain ⟨s, t, c, ki, vi, rfl, L, hv⟩ := dc_ok h1.1 S g h2
        exact dc_pe h1.1 g L hv
  | _ => cases h
theorem tr_ok : ∀ n, Snd gq Γ C G D (tr Γ n)
  | 0 => by
    constructor
    · intro X W k sc own g mv e ie h; cases h
    · intro X W k sc own g e ib h; cases h
  | n + 1 => by
    constructor
    · intro X W k sc own g mv e ie h; exact stepE_ok (tr_ok n) g h
    · intro X W k sc own g e ib h; exact stepT_ok (tr_ok n) g h
end
end G
namespace G
open PySem PySem.Spec PyProof.Rows L2

/-! # statements from the text -/
def notComp : Expr → Bool
  | .ListComp _ _ _ _ => false
  | .SetComp _ _ _ _ => false
  | .DictComp _ _ _ _ _ => false
  | _ => true
theorem swaps_no {e : Expr} {t : Option Expr} {l : Nat} {env : PySem.Env} (h : notComp e = true) : swapsWith e t l env = pure false := by
  cases e <;> first | rfl | (simp [notComp] at h)
theorem swaps_sole {e t : Expr} {l : Nat} {env : PySem.Env} (h : notComp e = true) : swapsWithSole [t] e l env = pure false := swaps_no h
theorem swaps_sub {e o i : Expr} {p : Pos} {l : Nat} {env : PySem.Env} : swapsWith e (some (.Subscript o i p)) l env = pure false := by
  cases e <;> rfl
theorem swaps_subS {e o i : Expr} {p : Pos} {l : Nat} {env : PySem.Env} : swapsWithSole [.Subscript o i p] e l env = pure false := by cases e <;> rfl
def lcSw (sc scope : Scope) (y : Str) (py pos : Pos) : Bool := sc.names.lookup y == some .local && (py.line == pos.line) && !(scope.names.any fun p => p.1 == y && (p.2 == .local || p.2 == .cell))
def lcNs (sc : Scope) (y : Str) : Bool := !(sc.names.lookup y == some .local)
theorem lc_noswap {elt : Expr} {gs : List Comprehension} {scope : Scope} {pos py : Pos} {y : Str} {l : Nat} {env : PySem.Env} (h : lcNs env.scope y = true) : swapsWith (.ListComp elt gs scope pos) (some (.Name y py)) l env = pure false := by
  unfold lcNs at h
  have e : (env.kindOf y == some NameKind.local) = false := by simpa [Env.kindOf] using h
  show (pure _ : Sem Bool) = _
  rw [e, Bool.and_false]
  rfl
def mutOf (m : Str) : Option Mu := if m = ("append" : Str) then some .append else if m = ("extend" : Str) then some .extend else if m = ("insert" : Str) then some .insert else none
def swC (sc : Scope) (x y : Str) (px py : Pos) (a b : Expr) : Bool :=
  noStarE a && noStarE b && sc.names.lookup x == some .local && sc.names.lookup y == some .local && (py.line == px.line) && !(x == y) && !(foldedForSure 8 a && foldedForSure 8 b) && !(constantsAlone 8 a && constantsAlone 8 b)
def parE (Γ : Gam) (r : Tr) (sc : Scope) (es vs : List Expr) : Option IS :=
  match es with
  | [.Name x px, .Name y py] => match vs with
    | [a, b] => (locOf Γ sc x).bind fun i => (locOf Γ sc y).bind fun j => gd (swC sc x y px py a b && !(i == j)) ((r.e sc false a).bind fun ia => (r.e sc false b).map (IS.par i j ia))
    | _ => none
  | _ => none
def asgE (Γ : Gam) (r : Tr) (sc : Scope) (tg value : Expr) (pos : Pos) : Option IS :=
  match tg with
  | .Name x py => (locOf Γ sc x).bind fun i => match value with
    | .ListComp elt gens scope lp => match gens with
      | [⟨t, iter, ifs, n⟩] => gd (n == 0 && (lcSw sc scope x py lp || lcNs sc x)) ((lcE Γ r sc elt t iter ifs scope).map (IS.asg i))
      | _ => none
    | .DictComp kx vx gens scope lp => match gens with
      | [⟨t, iter, ifs, n⟩] => gd (n == 0 && lcSw sc scope x py lp) ((dcE Γ r sc kx vx t iter ifs scope).map (IS.asg i))
      | _ => none
    | e => gd (notComp e) ((r.e sc false e).map (IS.asg i))
  | .Tuple es _ _ => match value with
    | .Tuple vs _ _ => parE Γ r sc es vs
    | e => (tgtNs Γ sc es).bind fun is => gd (notComp e) ((r.e sc false e).map (IS.asgT is))
  | .Subscript o ix _ => match o with
    | .Name x _ => (slotOf Γ sc x).bind fun c => gd (!isSl ix) ((r.e sc true value).bind fun v => (r.e sc false ix).map fun i => IS.setix c i v)
    | _ => none
  | .Attribute o f _ => match o with
    | .Name x _ => (slotOf Γ sc x).bind fun c => (r.e sc true value).map fun v => IS.fset c f (fldNs Γ.os f) v
    | _ => none
  | _ => none
def exprE (Γ : Gam) (r : Tr) (sc : Scope) (e : Expr) : Option IS :=
  match e with
  | .Constant (.str _) _ _ => some .pass
  | .Call (.Attribute (.Name x xp) m apos) args [] p => if methTab Γ.os m ≠ [] then (r.e sc false (.Call (.Attribute (.Name x xp) m apos) args [] p)).map IS.expr else match slotOf Γ sc x with
    | some c => gd (noStar args && decide (args.length < 30) && (apos.endLine == p.line)) (match args with
        | [] => gd (m == ("pop" : Str)) (some (.mut .pop c .nil))
        | [a] => if m = ("append" : Str) then (trL r sc true [a]).map (IS.mut .append c)
          else gd (m == ("extend" : Str)) ((trL r sc false [a]).map (IS.mut .extend c))
        | [a, b] => gd (m == ("insert" : Str)) ((trL r sc true [a, b]).map (IS.mut .insert c))
        | _ => none)
    | none => none
  | e => gd (notComp e) ((r.e sc false e).map IS.expr)
def retE (Γ : Gam) (r : Tr) (sc : Scope) (e : Expr) : Option IS :=
  match e with
  | .Name x _ => (match slotOf Γ sc x with
    | some i => some (.ret (if i < Γ.np then .mov i else .var i))
    | none => (r.e sc false e).map IS.ret)
  | e => (r.e sc false e).map IS.ret
def raiseZ (sc : Scope) (e f : Option Expr) : Option IS :=
  match e, f with
  | some (.Call (.Name x _) [.Constant (.str m) _ _] [] _), none => gd (isGl sc x && (x == ("ZeroDivisionError" : Str))) (some (.raise "ZeroDivisionError" m))
  | _, _ => none
def raiseE (Γ : Gam) (r : Tr) (sc : Scope) (e f : Option Expr) : Option IS :=
  match raiseZ sc e f with
  | some s => some s
  | none => match e, f with
    | some (.Call (.Name x _) (a :: as) [] _), none => gd (isGl sc x && plainN x && noStar (a :: as)) ((Γ.xs.find? fun xi => xi.nm == x).bind fun xi => gd (decide (xi.fl.length ≤ 900)) ((trL r sc false (a :: as)).map (IS.raiseX xi.nm xi.fl xi.msg)))
    | _, _ => none
mutual
/-- the statements of a suite that knows its exception -/
def trU (Γ : Gam) (r : Tr) (sc : Scope) : Nat → Stmt → Option SU
  | 0, _ => none
  | n + 1, st => match st with
    | .Assign tgs value _ => (match tgs with
      | [.Name x _] => (locOf Γ sc x).bind fun i => gd (notComp value) ((r.e sc false value).map (SU.asg i))
      | _ => none)
    | .Return e _ => (match e with
      | none => some .retN
      | some e => (r.e sc false e).map SU.ret)
    | .Pass _ => some .pass
    | .If c a b _ => (r.t sc c).bind fun ic => (trUs Γ r sc n a).bind fun ia => (trUs Γ r sc n b).map (SU.ite ic ia)
    | _ => none
def trUs (Γ : Gam) (r : Tr) (sc : Scope) : Nat → List Stmt → Option SUs
  | 0, _ => none
  | _ + 1, [] => some .nil
  | n + 1, s :: ss => (trU Γ r sc n s).bind fun i => (trUs Γ r sc n ss).map (SUs.cons i)
end
def slotN (Γ : Gam) (sc : Scope) : Option Str → Option (Option Nat)
  | none => some none
  | some n => gd (sc.names.lookup n == some .local) ((ixOf Γ.N n).map some)
def tryE (Γ : Gam) (sc : Scope) (n : Nat) (ib : ISs) (x : Str) (nm : Option Str) (suite : List Stmt) : Option IS :=
  gd (isGl sc x && plainN x && Γ.xn.contains x && !suite.isEmpty) ((slotN Γ sc nm).bind fun slot => (trUs Γ.cool (tr Γ.cool 20) sc n suite).map fun su => IS.tryX ib (xyes Γ [x]) (xno Γ [x]) slot su)
/-- the expressions of an except suite -/
def sufE (Γ : Gam) (sc : Scope) : Nat → Expr → Option IE
  | 0, _ => none
  | n + 1, e => match e with
    | .Name x _ => nameE Γ sc false x
    | .Constant c _ _ => conE c
    | .Compare a ops cs _ => match ops, cs with
      | [op], [b] => gd (!behindInMarks op b) ((sufE Γ sc n a).bind fun ia => (sufE Γ sc n b).map (IE.cmp op ia))
      | _, _ => none
    | .Subscript a i _ => gd (!isSl i) ((sufE Γ sc n a).bind fun ia => (sufE Γ sc n i).map (IE.ix ia))
    | _ => none
def sufS (Γ : Gam) (sc : Scope) : List Stmt → Option ISs
  | [.Return (some e) _] => (sufE Γ sc 20 e).map fun i => .cons (.ret i) .nil
  | _ => none
mutual
def trS (Γ : Gam) (r : Tr) (sc : Scope) : Nat → Stmt → Option IS
  | 0, _ => none
  | n + 1, st => match st with
    | .Assign tgs value pos => (match tgs with
      | [tg] => asgE Γ r sc tg value pos
      | _ => none)
    | .Expr e _ => exprE Γ r sc e
    | .Return e _ => (match e with
      | none => some .retN
      | some e => retE Γ r sc e)
    | .Pass _ => some .pass
    | .Break _ => some .brk
    | .Continue _ => some .cont
    | .If c a b _ => (r.t sc c).bind fun ic => (trSs Γ r sc n a).bind fun ia => (trSs Γ r sc n b).map (IS.ite ic ia)
    | .For tg iter body orelse _ => (match orelse with
      | [] => (tgtE Γ sc tg).bind fun t => (srcE r sc tg iter).bind fun s => (trSs Γ r sc n body).map (IS.for t s)
      | _ => none)
    | .While c body orelse _ => (match orelse with
      | [] => (r.t sc c).bind fun ic => (trSs Γ r sc n body).map (IS.while ic)
      | _ => none)
    | .Raise e f _ => raiseE Γ r sc e f
    | .Try body hs a b _ => (match hs, a, b with
      | [.ExceptHandler (some (.Name x _)) nm suite _], [], [] => (trSs Γ r sc n body).bind fun ib => (match nm, x == ("ZeroDivisionError" : Str) with
        | none, true => gd (isGl sc x) ((sufS Γ sc suite).map fun is => IS.try ib "ZeroDivisionError" is)
        | nm, false => tryE Γ sc n ib x nm suite
        | _, _ => none)
      | _, _, _ => none)
    | _ => none
def trSs (Γ : Gam) (r : Tr) (sc : Scope) : Nat → List Stmt → Option ISs
  | 0, _ => none
  | _ + 1, [] => some .nil
  | n + 1, s :: ss => (trS Γ r sc n s).bind fun i => (trSs Γ r sc n ss).map (ISs.cons i)
end

section
variable {gq : Bool} {Γ : Gam} {C : Nat → List Iv → Res} {G : Nat → T} {D : Nat → Nat → List T}
variable {X : Cx} {W : WX} {k : Nat} {sc : Scope} {r : Tr} {pos : Pos} {fx : Nat → Bool} {L : Nat}
theorem sw_some {sc : Scope} {x y : Str} {px py pt pt2 : Pos} {kt k2 : Nat} {a b : Expr} {env : PySem.Env} (he : env.scope = sc) (hk : sc.kind = .function) (h : swC sc x y px py a b = true) :
    swappedStores [.Tuple [.Name x px, .Name y py] kt pt] (.Tuple [a, b] k2 pt2) env = pure (some [x, y]) := by
  unfold swC at h
  simp only [Bool.and_eq_true, Bool.not_eq_true'] at h
  obtain ⟨⟨⟨⟨⟨⟨⟨h1, h2⟩, h3⟩, h4⟩, h5⟩, h6⟩, h7⟩, h8⟩ := h
  have hb : env.blockKind = .function := by unfold Env.blockKind; rw [he, hk]; rfl
  have q1 : (env.kindOf x == some NameKind.local) = true := by show (env.scope.names.lookup x == _) = true; rw [he]; exact h3
  have q2 : (env.kindOf y == some NameKind.local) = true := by show (env.scope.names.lookup y == _) = true; rw [he]; exact h4
  have dd : ([x, y].eraseDups.length != ([x, y] : List Str).length) = false := by
    have : (y == x) = false := by rw [Bool.eq_false_iff] at h6 ⊢; intro z; apply h6; have : y = x := by simpa using z
                                  subst this; simp
    simp [List.eraseDups_cons, this]
  unfold swappedStores
  simp only [List.any_cons, List.any_nil, Bool.or_false, List.filterMap_cons, List.filterMap_nil, q1, q2, List.head?_cons, Option.map_some, Option.getD_some, Expr.pos, h5, Bool.and_true, beq_self_eq_true, if_true]
  refine (if_neg (by rw [hb]; simp)).trans ((if_neg fun hst => ?_).trans ((if_neg (by rw [dd]; simp)).trans ((if_neg (by simpa using h7)).trans (if_neg (by simpa using h8)))))
  rcases Bool.or_eq_true_iff.mp hst with z | z
  · clear hst dd h7 h8
    cases a <;> first | (simp [noStarE] at h1; done) | (simp at z; done)
  · clear hst dd h7 h8
    cases b <;> first | (simp [noStarE] at h2; done) | (simp at z; done)
theorem par_ok {gq : Bool} {Γ : Gam} {C : Nat → List Iv → Res} {G : Nat → T} {D : Nat → Nat → List T} {X : Cx} {W : WX} {k : Nat} {sc : Scope} {r : Tr} {pos : Pos} {fx : Nat → Bool} {L : Nat} (hca : Γ.calm = true) (S : Snd gq Γ C G D r) (g : Good gq Γ C G D X W k sc sc) {es vs : List Expr} {k1 k2 : Nat} {p1 p2 : Pos} {is : IS} (h : parE Γ r sc es vs = some is) :
    PS X (.Assign [.Tuple es k1 p1] (.Tuple vs k2 p2) pos) (tS X.K W fx (xc C G D fx L is)) := by
  unfold parE at h
  split at h
  · split at h
    · rename_i x px y py _ a b
      obtain ⟨i, hi, h⟩ := Option.bind_eq_some_iff.mp h
      obtain ⟨j, hj, h⟩ := Option.bind_eq_some_iff.mp h
      obtain ⟨h1, h2⟩ := gd_some.mp h
      rw [Bool.and_eq_true] at h1
      simp only [Option.bind_eq_some_iff, Option.map_eq_some_iff] at h2
      obtain ⟨ia, ha, ib, hb, rfl⟩ := h2
      have hw := sw_some (pt := p1) (pt2 := p2) (kt := k1) (k2 := k2) g.scope g.kind h1.1
      have hsw := h1.1
      unfold swC at hsw
      simp only [Bool.and_eq_true] at hsw
      obtain ⟨⟨⟨⟨⟨⟨⟨s1, s2⟩, s3⟩, s4⟩, s5⟩, s6⟩, s7⟩, s8⟩ := hsw
      exact ss_par (g.calm hca) g.nd (loc_ok g hi).1 (loc_ok g hj).1 (by simpa using h1.2) (by rw [g.scope]; simpa using s3) (by rw [g.scope]; simpa using s4) (S.e g ha) (S.e g hb) s1 s2 hw
    · cases h
  · cases h
theorem asg_ok (hca : Γ.calm = true) (S : Snd gq Γ C G D r) (g : Good gq Γ C G D X W k sc sc) {tg value : Expr} {is : IS} (h : asgE Γ r sc tg value pos = some is) : PS X (.Assign [tg] value pos) (tS X.K W fx (xc C G D fx L is)) := by
  unfold asgE at h
  split at h
  · rename_i x py
    obtain ⟨i, hi, h2⟩ := Option.bind_eq_some_iff.mp h
    obtain ⟨l1, l2, l3, l4⟩ := loc_ok g hi
    have plain : ∀ {e : Expr} {is : IS}, gd (notComp e) ((r.e sc false e).map (IS.asg i)) = some is → PS X (.Assign [.Name x py] e pos) (tS X.K W fx (xc C G D fx L is)) := fun {e is} q => by
      obtain ⟨q1, q2⟩ := gd_some.mp q
      obtain ⟨ie, he, rfl⟩ := Option.map_eq_some_iff.mp q2
      exact ss_asg g.nd l1 l2 l3 (S.e g he) (swaps_no q1)
    cases value with
    | ListComp elt gens scope lp =>
      cases gens with
      | nil => cases h2
      | cons c0 cs =>
        obtain ⟨t, iter, ifs, n⟩ := c0
        cases cs with
        | cons _ _ => cases h2
        | nil =>
          obtain ⟨q1, q2⟩ := gd_some.mp h2
          rw [Bool.and_eq_true] at q1
          have hn : n = 0 := by simpa using q1.1
          subst hn
          obtain ⟨ie, he, rfl⟩ := Option.map_eq_some_iff.mp q2
          obtain ⟨s, t', c, e, rfl, Lc⟩ := lc_ok hca S g he
          rcases Bool.or_eq_true_iff.mp q1.2 with q3 | q3
          · unfold lcSw at q3
            simp only [Bool.and_eq_true] at q3
            have hl : X.env.scope.names.lookup x = some .local := by rw [g.scope]; simpa using q3.1.1
            refine ss_asgLc (ps_setLc (g.calm hca) g.nd l1 hl (sw_true (by rw [g.scope]; exact g.kind) hl q3.1.2 (by simpa using q3.2)) Lc.src Lc.blk Lc.tgt Lc.cond Lc.elt Lc.fold) fun σ H Q q => lc_imp Lc.tgi q
          · exact ss_asg g.nd l1 l2 l3 (lc_pe hca g Lc) (lc_noswap (by rw [g.scope]; exact q3))
    | DictComp kx vx gens scope lp =>
      cases gens with
      | nil => cases h2
      | cons c0 cs =>
        obtain ⟨t, iter, ifs, n⟩ := c0
        cases cs with
        | cons _ _ => cases h2
        | nil =>
          obtain ⟨q1, q2⟩ := gd_some.mp h2
          rw [Bool.and_eq_true] at q1
          have hn : n = 0 := by simpa using q1.1
          subst hn
          obtain ⟨ie, he, rfl⟩ := Option.map_eq_some_iff.mp q2
          obtain ⟨s, t', c, ki, vi, rfl, Lc, hv⟩ := dc_ok hca S g he
          have q3 := q1.2
          unfold lcSw at q3
          simp only [Bool.and_eq_true] at q3
          have hl : X.env.scope.names.lookup x = some .local := by rw [g.scope]; simpa using q3.1.1
          refine ss_asgLc (ps_setDc (g.calm hca) g.nd l1 hl (swD (by rw [g.scope]; exact g.kind) hl q3.1.2 (by simpa using q3.2)) Lc.src Lc.blk Lc.tgt Lc.cond Lc.elt hv Lc.fold) fun σ H Q q => dc_imp Lc.tgi q
    | _ => exact plain h2
  · rename_i es k1 p1
    cases value with
    | Tuple vs k2 p2 =>
      exact par_ok hca S g h
    | _ =>
      obtain ⟨is', his, h2⟩ := Option.bind_eq_some_iff.mp h
      obtain ⟨q1, q2⟩ := gd_some.mp h2
      obtain ⟨ie, he, rfl⟩ := Option.map_eq_some_iff.mp q2
      obtain ⟨t1, t2, t3⟩ := tgtNs_ok g his
      exact ss_asgT (pg_tup (g.calm hca) t1 t2 t3) (S.e g he) (swaps_sole q1) rfl rfl
  · split at h
    · rename_i ix p1 _ x p2
      obtain ⟨c, hc, h2⟩ := Option.bind_eq_some_iff.mp h
      obtain ⟨q1, q2⟩ := gd_some.mp h2
      simp only [Option.bind_eq_some_iff, Option.map_eq_some_iff] at q2
      obtain ⟨v, hv, i, hi, rfl⟩ := q2
      unfold slotOf at hc
      obtain ⟨w1, w2⟩ := gd_some.mp hc
      rw [Bool.and_eq_true] at w1
      obtain ⟨p1', p2'⟩ := plainN_1 w1.2
      have hix : isSl ix = false := by simpa using q1
      refine ss_setix g.hu1 (by rw [g.N]; exact ixOf_get w2) (by rw [g.scope]; exact vis_of w1.1) p1' p2' (S.e g hi) (S.e g hv) (fun v => ?_) (swaps_subS (e := value)) (by cases value <;> rfl)
      cases ix <;> first | rfl | (simp [isSl] at hix)
    · cases h
  · split at h
    · rename_i f p1 _ x p2
      obtain ⟨c, hc, h2⟩ := Option.bind_eq_some_iff.mp h
      obtain ⟨v, hv, rfl⟩ := Option.map_eq_some_iff.mp h2
      unfold slotOf at hc
      obtain ⟨w1, w2⟩ := gd_some.mp hc
      rw [Bool.and_eq_true] at w1
      obtain ⟨p1', p2'⟩ := plainN_1 w1.2
      exact ss_fset (g.fo f) (by rw [g.N]; exact ixOf_get w2) (by rw [g.scope]; exact vis_of w1.1) p1' p2' (S.e g hv) (by cases value <;> rfl)
    · cases h
  · cases h
theorem expr_ok (S : Snd gq Γ C G D r) (g : Good gq Γ C G D X W k sc sc) {e : Expr} {is : IS} (h : exprE Γ r sc e = some is) : PS X (.Expr e pos) (tS X.K W fx (xc C G D fx L is)) := by
  unfold exprE at h
  split at h
  · cases h; exact ss_doc
  · rename_i x xp m apos args p
    split at h
    · obtain ⟨ie, he, rfl⟩ := Option.map_eq_some_iff.mp h
      exact ss_expr (S.e g he) (swaps_no rfl)
    split at h
    · rename_i c hc
      unfold slotOf at hc
      obtain ⟨w1, w2⟩ := gd_some.mp hc
      rw [Bool.and_eq_true] at w1
      obtain ⟨p1', p2'⟩ := plainN_1 w1.2
      have hN : X.N[c]? = some x := by rw [g.N]; exact ixOf_get w2
      have hV : Vis X.env.scope x := by rw [g.scope]; exact vis_of w1.1
      obtain ⟨q1, q2⟩ := gd_some.mp h
      simp only [Bool.and_eq_true] at q1
      obtain ⟨⟨hs, hn⟩, hl⟩ := q1
      clear h
      revert q2 hs
      intro q2 hs
      match args, q2, hs with
      | [], q3, hs =>
        obtain ⟨q4, q5⟩ := gd_some.mp q3
        have hm : m = "pop" := by simpa using q4
        subst hm
        cases q5
        exact ss_pop hN hV p1' p2' hl
      | [a], q3, hs =>
        have q6 : (if m = ("append" : Str) then (trL r sc true [a]).map (IS.mut .append c)
          else gd (m == ("extend" : Str)) ((trL r sc false [a]).map (IS.mut .extend c))) = some is := q3
        by_cases em : m = ("append" : Str)
        · rw [if_pos em] at q6
          subst em
          obtain ⟨ies, hes, rfl⟩ := Option.map_eq_some_iff.mp q6
          exact ss_append hN hV p1' p2' (trL_ok S g hes).1 hs hl
        · rw [if_neg em] at q6
          obtain ⟨q4, q5⟩ := gd_some.mp q6
          have hm : m = "extend" := by simpa using q4
          subst hm
          obtain ⟨ies, hes, rfl⟩ := Option.map_eq_some_iff.mp q5
          exact ss_extend hN hV p1' p2' (trL_ok S g hes).1 hs hl
      | [a, b], q3, hs =>
        obtain ⟨q4, q5⟩ := gd_some.mp q3
        have hm : m = "insert" := by simpa using q4
        subst hm
        obtain ⟨ies, hes, rfl⟩ := Option.map_eq_some_iff.mp q5
        exact ss_insert hN hV p1' p2' (trL_ok S g hes).1 hs hl
      | _ :: _ :: _ :: _, q3, hs => cases q3
    · cases h
  · obtain ⟨q1, q2⟩ := gd_some.mp h
    obtain ⟨ie, he, rfl⟩ := Option.map_eq_some_iff.mp q2
    exact ss_expr (S.e g he) (swaps_no q1)
theorem ret_ok (S : Snd gq Γ C G D r) (g : Good gq Γ C G D X W k sc sc) {e : Expr} {is : IS} (h : retE Γ r sc e = some is) : PS X (.Return (some e) pos) (tS X.K W fx (xc C G D fx L is)) := by
  have plain : ∀ {is : IS}, (r.e sc false e).map IS.ret = some is → PS X (.Return (some e) pos) (tS X.K W fx (xc C G D fx L is)) := fun {is} q => by
    obtain ⟨ie, he, rfl⟩ := Option.map_eq_some_iff.mp q
    exact ss_ret (S.e g he)
  unfold retE at h
  split at h
  · split at h
    · rename_i i hi
      cases h
      refine ss_ret ?_
      by_cases hlt : i < Γ.np
      · rw [if_pos hlt]; exact se_mov (slot_ok g hi)
      · rw [if_neg hlt]; exact se_var (slot_ok g hi)
    · exact plain h
  · exact plain h
theorem raiseZ_ok (hca : Γ.calm = true) (g : Good gq Γ C G D X W k sc sc) {e f : Option Expr} {is : IS} (h : raiseZ sc e f = some is) : PS X (.Raise e f pos) (tS X.K W fx (xc C G D fx L is)) := by
  unfold raiseZ at h
  split at h
  · rename_i x p1 m j p2 p3
    obtain ⟨h1, h2⟩ := gd_some.mp h
    cases h2
    rw [Bool.and_eq_true] at h1
    have hx : x = "ZeroDivisionError" := by simpa using h1.2
    subst hx
    have hm : X.mg "ZeroDivisionError" = none := g.blt _ (by unfold bNames; simp)
    refine ps_imp (ps_raiseB (g.calm hca) g.takes exb_ZeroDivisionError (g.gl_ h1.1) hm (by decide +kernel) (by decide +kernel) (by decide +kernel)) fun D σ H ⟨env, F, fp, E, q⟩ => ?_
    exact q _ none σ H F fp E Stp.refl Fix.refl ⟨rfl, rfl⟩
  · cases h
theorem raise_ok (hca : Γ.calm = true) (S : Snd gq Γ C G D r) (g : Good gq Γ C G D X W k sc sc) {e f : Option Expr} {is : IS} (h : raiseE Γ r sc e f = some is) : PS X (.Raise e f pos) (tS X.K W fx (xc C G D fx L is)) := by
  unfold raiseE at h
  split at h
  · cases h
    exact raiseZ_ok hca g (by assumption)
  · split at h
    · rename_i x p a as p2 _
      obtain ⟨h1, h2⟩ := gd_some.mp h
      simp only [Bool.and_eq_true] at h1
      obtain ⟨⟨hg, hp⟩, hs⟩ := h1
      obtain ⟨xi, hf, h2⟩ := Option.bind_eq_some_iff.mp h2
      obtain ⟨hl, h2⟩ := gd_some.mp h2
      obtain ⟨ies, hes, rfl⟩ := Option.map_eq_some_iff.mp h2
      have hm := List.mem_of_find?_eq_some hf
      have hx : xi.nm = x := by simpa using List.find?_some hf
      subst hx
      obtain ⟨C', M⟩ := g.xmk xi hm
      have hs' : noStarE a = true ∧ noStar as = true := by simpa [noStar] using hs
      exact ss_raiseX (g.calm hca) g.takes M (g.room hca) (g.gl_ hg) (plainN_1 hp).1 (trL_ok S g hes).1 (star_cons hs'.1) (star_any hs'.2) (by simpa using hl)
    · cases h
/-! ## a suite -/
mutual
theorem trU_ok (S : Snd gq Γ C G D r) (g : Good gq Γ C G D X W k sc sc) : ∀ (n : Nat) {st : Stmt} {is : SU}, trU Γ r sc n st = some is → PS X st (tS X.K W fx (su C G D fx is))
  | 0, st, is, h => by simp [trU] at h
  | n + 1, st, is, h => by
    unfold trU at h
    cases st with
    | Assign tgs value p =>
      simp only at h
      split at h
      · rename_i x p2
        obtain ⟨i, hi, h2⟩ := Option.bind_eq_some_iff.mp h
        obtain ⟨q1, q2⟩ := gd_some.mp h2
        obtain ⟨ie, he, rfl⟩ := Option.map_eq_some_iff.mp q2
        obtain ⟨l1, l2, l3, l4⟩ := loc_ok g hi
        exact ss_asg g.nd l1 l2 l3 (S.e g he) (swaps_no q1)
      · cases h
    | Return e p =>
      cases e with
      | none => cases h; exact ss_retN
      | some e =>
        obtain ⟨ie, he, rfl⟩ := Option.map_eq_some_iff.mp h
        exact ss_ret (S.e g he)
    | Pass p => cases h; exact ss_pass
    | If c a b p =>
      simp only [Option.bind_eq_some_iff, Option.map_eq_some_iff] at h
      obtain ⟨ic, hc, ia, ha, ib, hb, rfl⟩ := h
      exact ss_if (S.t g hc) (trUs_ok S g n ha) (trUs_ok S g n hb)
    | _ => cases h
theorem trUs_ok (S : Snd gq Γ C G D r) (g : Good gq Γ C G D X W k sc sc) : ∀ (n : Nat) {sts : List Stmt} {is : SUs}, trUs Γ r sc n sts = some is → PSs X sts (tS X.K W fx (sus C G D fx is))
  | 0, sts, is, h => by simp [trUs] at h
  | n + 1, [], is, h => by
    simp only [trUs] at h
    cases h
    exact ss_nil
  | n + 1, s :: ss, is, h => by
    simp only [trUs, Option.bind_eq_some_iff, Option.map_eq_some_iff] at h
    obtain ⟨i, hi, is', his, rfl⟩ := h
    exact ss_cons (trU_ok S g n hi) (trUs_ok S g n his)
end
theorem Good.cool (g : Good gq Γ C G D X W k sc sc) {a : Addr} {pn : List (Addr × Obj)} {nm : Str} {fs : List (Str × T)} (hx : ∃ xi ∈ Γ.xs, xi.nm = nm) (er : ErrX (X.suite a pn) a nm fs) : Good gq Γ.cool C (setG G (encE a nm fs)) D (X.suite a pn) W0 k sc sc where
  scope := g.scope
  kind := g.kind
  N := g.N
  nd := g.nd
  calm := fun h => by cases h
  room := fun h => by cases h
  k2 := g.k2
  rh := ⟨g.rh.dp, g.rh.un⟩
  hu := g.hu
  gd := g.gd
  rq := g.rq
  sm := g.sm
  takes := fun u s' x => by
    obtain ⟨_, _, _, _, _, _, _, _, _, _, _, _, _, _, _, _, w⟩ := x
    exact w.elim
  loc := g.loc
  fn := g.fn
  gl := fun x j hj => by
    obtain ⟨v, u, h1, h2, h3⟩ := g.gl x j hj
    refine ⟨v, u, h1, h2, fun F => ?_⟩
    unfold setG
    rw [if_neg (g.gne x j hj)]
    exact h3 F
  blt := g.blt
  gcd := g.gcd
  lf := g.lf
  gne := g.gne
  xc := g.xc
  xmk := fun xi h => by obtain ⟨C, M⟩ := g.xmk xi h; exact ⟨C, M.oex, M.mg, M.cn, M.nf, M.init⟩
  xnd := g.xnd
  xn := g.xn
  fo := g.fo
  mo := fun m nm i h n => ⟨(g.mo m nm i h n).ex⟩
  co := g.co
  ecs := g.ecs
  er := fun _ => ⟨a, nm, fs, by unfold setG; rw [if_pos rfl], hx, er⟩
/-- what is known of a place in an except suite -/
structure Cool (Γ : Gam) (G : Nat → T) (X : Cx) (sc : Scope) : Prop where
  scope : X.env.scope = sc
  N : X.N = Γ.N
  hu : X.A.units + 65 < cLine
  gl : ∀ x j, Γ.gs.lookup x = some j → ∃ v u, X.mg x = some u ∧ RelV v u ∧ ∀ F, Den X.K F v (G j)
theorem sufE_ok (g : Cool Γ G X sc) : ∀ (n : Nat) {e : Expr} {ie : IE}, sufE Γ sc n e = some ie → PE X e (tE X.K W (ev C G D ie))
  | 0, e, ie, h => by cases h
  | n + 1, e, ie, h => by
    unfold sufE at h
    split at h
    · rename_i x p
      unfold nameE at h
      split at h
      · rename_i i hs
        cases h
        unfold slotOf at hs
        obtain ⟨h1, h2⟩ := gd_some.mp hs
        rw [Bool.and_eq_true] at h1
        obtain ⟨p1, p2⟩ := plainN_1 h1.2
        exact se_var (pe_var (by rw [g.N]; exact ixOf_get h2) (by rw [g.scope]; exact vis_of h1.1) p1 p2)
      · obtain ⟨h1, h2⟩ := gd_some.mp h
        rw [Bool.and_eq_true] at h1
        obtain ⟨j, hj, rfl⟩ := Option.map_eq_some_iff.mp h2
        obtain ⟨v, u, hm, hr, hd⟩ := g.gl x j hj
        have hgl : Gl X x := by
          show X.env.scope.names.lookup x = _
          rw [g.scope]
          simpa [isGl] using h1.1
        exact se_con (pe_glob hgl hm hr (plainN_1 h1.2).1) hd
    · exact con_ok h
    · split at h
      · rename_i a op b _
        obtain ⟨h1, h2⟩ := gd_some.mp h
        simp only [Option.bind_eq_some_iff, Option.map_eq_some_iff] at h2
        obtain ⟨ia, ha, ib, hb, rfl⟩ := h2
        exact se_cmp g.hu (sufE_ok g n ha) (sufE_ok g n hb) (by simpa using h1)
      · cases h
    · obtain ⟨h1, h2⟩ := gd_some.mp h
      simp only [Option.bind_eq_some_iff, Option.map_eq_some_iff] at h2
      obtain ⟨ia, ha, ib, hb, rfl⟩ := h2
      have := g.hu
      exact se_ix (by omega) (sufE_ok g n ha) (sufE_ok g n hb) (plainIx (by simpa using h1))
    · cases h
theorem sufS_ok (g : Cool Γ G X sc) {ss : List Stmt} {iss : ISs} (h : sufS Γ sc ss = some iss) : ∃ b0 rest, ss = b0 :: rest ∧ PSs X ss (tS X.K W fx (xcs C G D fx L iss)) := by
  unfold sufS at h
  split at h
  · obtain ⟨i, hi, rfl⟩ := Option.map_eq_some_iff.mp h
    exact ⟨_, _, rfl, ss_cons (ss_ret (sufE_ok g 20 hi)) ss_nil⟩
  · cases h
theorem exm_ZD {K : PySem.W.Frag} : PySem.W.exmOne K (.type "ZeroDivisionError") (.type "ZeroDivisionError") = some true := by kernel_rfl
/-- the frame of a def's own statements -/
def Own (X : Cx) : Prop := X.stack = X.env :: X.outer ∧ X.env.frame = some X.env.locals
theorem Good.tr {own : Scope} (hca : Γ.calm = true) (g : Good gq Γ C G D X W k sc own) {pn : List (Addr × Obj)} {xe : Value → Shared → Prop} {W' : WX} (tk : Takes (X.tr pn xe) W') : Good gq Γ C G D (X.tr pn xe) W' k sc own where
  scope := g.scope
  kind := g.kind
  N := g.N
  nd := g.nd
  calm := g.calm
  room := g.room
  k2 := g.k2
  rh := g.rh
  hu := g.hu
  gd := g.gd
  rq := g.rq
  sm := g.sm
  takes := tk
  loc := g.loc
  fn := g.fn
  gl := g.gl
  blt := g.blt
  gcd := g.gcd
  lf := g.lf
  gne := g.gne
  xc := g.xc
  xmk := fun xi h => by obtain ⟨C, M⟩ := g.xmk xi h; exact ⟨C, M.oex, M.mg, M.cn, M.nf, M.init⟩
  xnd := g.xnd
  xn := g.xn
  fo := g.fo
  mo := fun m nm i h n => ⟨(g.mo m nm i h n).ex⟩
  co := g.co
  ecs := g.ecs
  er := fun h => by rw [hca] at h; cases h
mutual
theorem trS_ok (hca : Γ.calm = true) (S : Snd gq Γ C G D r) : ∀ (n : Nat) {X : Cx} {W : WX} (g : Good gq Γ C G D X W k sc sc) (hp : PassesOwn (model X.prog X.w) X.A X.env X.xe) (ho : Own X) {st : Stmt} {is : IS}, trS Γ r sc n st = some is → PS X st (tS X.K W fx (xc C G D fx L is))
  | 0, X, W, g, hp, ho, st, is, h => by simp [trS] at h
  | n + 1, X, W, g, hp, ho, st, is, h => by
    unfold trS at h
    cases st with
    | Assign tgs value p =>
      cases tgs with
      | nil => cases h
      | cons tg tgs =>
        cases tgs with
        | nil => exact asg_ok hca S g h
        | cons _ _ => cases h
    | Expr e p => exact expr_ok S g h
    | Return e p =>
      cases e with
      | none => cases h; exact ss_retN
      | some e => exact ret_ok S g h
    | Pass p => cases h; exact ss_pass
    | Break p => cases h; exact ss_brk
    | Continue p => cases h; exact ss_cont
    | If c a b p =>
      simp only [Option.bind_eq_some_iff, Option.map_eq_some_iff] at h
      obtain ⟨ic, hc, ia, ha, ib, hb, rfl⟩ := h
      exact ss_if (S.t g hc) (trSs_ok hca S n g hp ho ha) (trSs_ok hca S n g hp ho hb)
    | For tg iter body orelse p =>
      cases orelse with
      | cons _ _ => cases h
      | nil =>
        simp only [Option.bind_eq_some_iff, Option.map_eq_some_iff] at h
        obtain ⟨t, ht, s, hs, ib, hb, rfl⟩ := h
        obtain ⟨s1, s2⟩ := src_sound S g hs
        exact ss_for hp (g.calm hca) s1 (tgt_sound hca g ht) (trSs_ok hca S n g hp ho hb) s2
    | While c body orelse p =>
      cases orelse with
      | cons _ _ => cases h
      | nil =>
        simp only [Option.bind_eq_some_iff, Option.map_eq_some_iff] at h
        obtain ⟨ic, hc, ib, hb, rfl⟩ := h
        exact ss_while hp (S.t g hc) (trSs_ok hca S n g hp ho hb)
    | Raise e f p => exact raise_ok hca S g h
    | Try body hs a b p =>
      simp only at h
      split at h
      · rename_i x np nm suite p'
        obtain ⟨ib, hb, h2⟩ := Option.bind_eq_some_iff.mp h
        split at h2
        · rename_i hx
          obtain ⟨h1, h2b⟩ := gd_some.mp h2
          have hx : x = "ZeroDivisionError" := by simpa using hx
          subst hx
          obtain ⟨is', his, rfl⟩ := Option.map_eq_some_iff.mp h2b
          have hm : X.mg "ZeroDivisionError" = none := g.blt _ (by unfold bNames; simp)
          have cool : ∀ (a : Addr) (pn : List (Addr × Obj)), Cool Γ G (X.suite a pn) sc := fun a pn => ⟨g.scope, g.N, g.hu, g.gl⟩
          obtain ⟨b0, rest, rfl, _⟩ := sufS_ok (C := C) (D := D) (W := W0) (fx := fx) (L := L) (cool 0 []) his
          refine ss_try ho.1 ho.2 (names_blt (g.gl_ h1) hm boot_ZeroDivisionError) exm_ZD g.takes (fun W' pn xe tk hp' => trSs_ok hca S n (g.tr hca tk) hp' ho hb) fun a pn => ?_
          obtain ⟨_, _, _, q⟩ := sufS_ok (C := C) (D := D) (W := W0) (fx := fx) (L := L) (cool a pn) his
          exact q
        · rename_i nmA nmB xb hxf
          unfold tryE at h2
          obtain ⟨h1, h3⟩ := gd_some.mp h2
          simp only [Bool.and_eq_true] at h1
          obtain ⟨⟨⟨hg, hp2⟩, hxn⟩, hne⟩ := h1
          obtain ⟨slot, hsl, h4⟩ := Option.bind_eq_some_iff.mp h3
          obtain ⟨su', hsu, rfl⟩ := Option.map_eq_some_iff.mp h4
          obtain ⟨v, u, hv, hk⟩ := (g.xn x (by simpa using hxn)).ex
          have hN : L2.Names X x u := by
            rcases hv with ⟨D', hm, rfl, rfl⟩ | ⟨T, hm, hb', hn, rfl, rfl⟩
            · exact ⟨g.gl_ hg, (plainN_1 hp2).1, .inl hm⟩
            · exact ⟨g.gl_ hg, (plainN_1 hp2).1, .inr ⟨hm, hb', hn⟩⟩
          have memx : ∀ {nm' : Str} {p : XI → Bool}, nm' ∈ (Γ.xs.filter p).map (·.nm) → ∃ xi ∈ Γ.xs, xi.nm = nm' ∧ p xi = true := fun {nm' p} h => by
            obtain ⟨xi, h1, h2⟩ := List.mem_map.mp h
            obtain ⟨h3, h4⟩ := List.mem_filter.mp h1
            exact ⟨xi, h3, h2, h4⟩
          have hcat : Catch X.K u (xyes Γ [x]) (xno Γ [x]) := by
            refine ⟨fun C' nm' hy cn => ?_, fun C' nm' hy cn => ?_⟩
            · obtain ⟨xi, h1, rfl, h2⟩ := memx hy
              refine ⟨g.xc xi h1 C' cn, ?_⟩
              rw [(hk xi h1 C' cn).2]
              simpa using h2
            · obtain ⟨xi, h1, rfl, h2⟩ := memx hy
              rw [(hk xi h1 C' cn).2]
              simpa using h2
          have hsuite : ∀ (a : Addr) (pn : List (Addr × Obj)) (nm' : Str) (fs : List (Str × T)), nm' ∈ xyes Γ [x] → ErrX (X.suite a pn) a nm' fs → PSs (X.suite a pn) suite (tS X.K W0 fx (sus C (setG G (encE a nm' fs)) D fx su')) := fun a pn nm' fs hy er => by
            obtain ⟨xi, h1, h2, _⟩ := memx hy
            exact trUs_ok (tr_ok 20) (g.cool ⟨xi, h1, h2⟩ er) n hsu
          cases suite with
          | nil => simp at hne
          | cons b0 suite =>
            cases nmA with
            | none =>
              cases hsl
              exact ss_tryX ho.1 ho.2 hN hcat g.takes (fun W' pn xe tk hp' => trSs_ok hca S n (g.tr hca tk) hp' ho hb) hsuite
            | some nn =>
              obtain ⟨h5, h6⟩ := gd_some.mp hsl
              obtain ⟨i, hi, rfl⟩ := Option.map_eq_some_iff.mp h6
              exact ss_tryXs ho.1 ho.2 g.nd (by rw [g.N]; exact ixOf_get hi) (by show X.env.scope.names.lookup nn = _; rw [g.scope]; simpa using h5) hN hcat g.takes (fun W' pn xe tk hp' => trSs_ok hca S n (g.tr hca tk) hp' ho hb) hsuite
        · cases h2
      · cases h
    | _ => cases h
theorem trSs_ok (hca : Γ.calm = true) (S : Snd gq Γ C G D r) : ∀ (n : Nat) {X : Cx} {W : WX} (g : Good gq Γ C G D X W k sc sc) (hp : PassesOwn (model X.prog X.w) X.A X.env X.xe) (ho : Own X) {sts : List Stmt} {is : ISs}, trSs Γ r sc n sts = some is → PSs X sts (tS X.K W fx (xcs C G D fx L is))
  | 0, X, W, g, hp, ho, sts, is, h => by simp [trSs] at h
  | n + 1, X, W, g, hp, ho, [], is, h => by
    simp only [trSs] at h
    cases h
    exact ss_nil
  | n + 1, X, W, g, hp, ho, s :: ss, is, h => by
    simp only [trSs, Option.bind_eq_some_iff, Option.map_eq_some_iff] at h
    obtain ⟨i, hi, is', his, rfl⟩ := h
    exact ss_cons (trS_ok hca S n g hp ho hi) (trSs_ok hca S n g hp ho his)
end
end
end G
namespace G
open PySem PySem.Spec PyProof.Rows L2 NdefX

/-! # the promise of such an __init__ -/
/-- the def, what it says ahead of its assignments -/
structure InitD (K : PySem.W.Frag) (P : Program) (C fI : Addr) (F : NF) (N ps : List Str) (l : List (Str × Nat)) (arg : Expr) : Prop where
  sup : SupC K C
  look : ∃ oc od doc pm ctv sl, K.lookup fI = some ⟨oc, od, .func (F.fd doc pm ctv), sl⟩
  code : PySem.W.codeIn K (.ref F.c) F.qual = true
  file : ∃ oc vs file tf, K.lookup F.c = some oc ∧ oc.data = .fields vs ∧ vs[2]? = some (.str file tf) ∧ ((P.main.file : Str) == file) = true
  cell : ∃ c o, F.cl = [(("__class__" : Str), c)] ∧ K.lookup c = some o ∧ o.data = .cell (some (.ref C))
  S : NScope N ps [("__class__" : Str)] F.scope
  ks : F.scope.names.lookup ("super" : Str) = some .globalImplicit
  top : (P.main.scope.names.lookup ("super" : Str)).isSome = false
  head : ∃ ar, (F.params.posonlyargs ++ F.params.args).head? = some ar ∧ ps[0]? = some ar.arg ∧ (ar.arg == ("__classdict__" : Str)) = false
  bd : ∀ (doc pm ctv : Value) (us : List Value), us.length = ps.length → bindArgs (F.fd doc pm ctv) ⟨us, []⟩ = pure (ps.zip us)
  nps : N = ps ++ [("__class__" : Str)]
  fld : ∀ p ∈ l, PySem.W.findIn K (.ref C) p.1 = some none
  body : ∃ p0 p1 apos pos p2 rest, F.body = .Expr (.Call (.Attribute (.Call (.Name "super" p0) [] [] p1) "__init__" apos) [arg] [] pos) p2 :: rest ∧ AsgOk N l rest ∧
    noStarE arg = true ∧ (∀ env : PySem.Env, swapsWith (.Call (.Attribute (.Call (.Name "super" p0) [] [] p1) "__init__" apos) [arg] [] pos) none p2.line env = pure false) ∧
    ∃ pl, ∀ env : PySem.Env, eval (.Call (.Attribute (.Call (.Name "super" p0) [] [] p1) "__init__" apos) [arg] [] pos) env = (do
      let ov ← attributeBase (.Call (.Name "super" p0) [] [] p1) "__init__" env (eval (.Call (.Name "super" p0) [] [] p1) env)
      standAt apos.atName
      let (f, first) ← holding [ov] (getMethod ov "__init__" pl)
      callWith pos f first (backTo pos (starEach [arg] env)) [])
  slots : l.map (·.2) = (List.range l.length).map (· + 1)
  np : ps.length = l.length + 1
  ne : l ≠ []

def gam0 (N : List Str) (np : Nat) : Gam := ⟨N, np, [], [], false, none, [], false, [], [], [], [], true⟩
section
variable {P : Program} {w : World} {K : PySem.W.Frag} {mg : Str → Option Value} {base : Heap} {C fI : Addr} {F : NF} {N ps : List Str} {l : List (Str × Nat)} {arg : Expr} {ie : IE}
theorem good_init (hm : ∀ x ∈ bNames, mg x = none) (S : NScope N ps [("__class__" : Str)] F.scope) {k : Nat} {f : Addr} {A : Around} {outer : List PySem.Env} {s : Shared} {H : Hp} {E : XK} (hr : Room (k + 1) (A.deeper (envF F f s.heap.objs.size))) :
    Good false (gam0 N ps.length) C0 GN DN (ncx (L2.CX P w) P w K mg base N F f A outer s H E) (fun cls d _ H => E cls d H) k F.scope F.scope where
  scope := rfl
  kind := S.kind
  N := rfl
  nd := S.nd
  calm := fun _ => rfl
  room := fun _ => hr
  k2 := fun h => absurd rfl h
  rh := roomH_of hr
  hu := by have := hr.un; show (A.deeper (envF F f s.heap.objs.size)).units + 65 < cLine; omega
  gd := fun h => by cases h
  rq := fun h => by cases h
  sm := fun h => by cases h
  takes := takes_of rfl rfl rfl rfl
  loc := fun x h => by
    rcases isLoc_or h with h | h
    · exact ⟨.inl h, .inr h⟩
    · exact absurd rfl (S.nocell _ (PySem.mem_of_lookup h))
  fn := fun x i h => by cases h
  gl := fun x i h => by cases h
  blt := hm
  gcd := fun h => by cases h
  lf := fun x h => by cases h
  gne := fun x j h => by cases h
  xc := fun xi h => by cases h
  xmk := fun xi h => by cases h
  xnd := List.nodup_nil
  xn := fun y h => by cases h
  fo := fun f nm h => by cases h
  mo := fun m nm i h => by cases h
  co := fun c i h => by cases h
  ecs := fun x i h => by cases h
  er := fun h => by cases h

theorem fn_init (hm : ∀ x ∈ bNames, mg x = none) (hsu : mg "super" = none) (D : InitD K P C fI F N ps l arg) (htr : (tr (gam0 N ps.length) 40).e F.scope false arg = some ie) (h9 : l.length ≤ 800) {doc pm ctv : Value} {oc : Value} {od : Option Addr} {sl : Array (Option Value)}
    (look : K.lookup fI = some ⟨oc, od, .func (F.fd doc pm ctv), sl⟩) (k : Nat) : FnOk P w K mg base (L2.CX P w) (k + 2) fI (F.fd doc pm ctv) ps (spInit C l ie) := by
  have lens : ∀ vs H Q E, spInit C l ie vs H Q E → vs.length = ps.length := fun vs H Q E ⟨a, ts, us, e, h1, h2, _⟩ => by
    subst e
    rw [List.length_cons, lvs_len h1, h2, D.np]
  refine ⟨lens, fun A outer s H args us vs Q E hr e0 hb r hsp => ?_⟩
  have hl := lens _ _ _ _ hsp
  have kin1 : K.In s.heap := e0.mod.kin.keeps fun b o e => (e0.bs b o e).1
  have lim : s.heap.NoLimit := e0.mod.nolimit.keeps fun b o e => (e0.bs b o e).1
  refine codeAny_call_function hr.depth (kin1 _ _ look) rfl D.S.co D.S.gen rfl (PySem.W.codeRec_of kin1 D.code) (hb _ _ _ _ ?_)
  refine wpAny_newFunctionEnv D.S.nocell (fun ⟨n, _⟩ hy => D.S.par n (List.of_mem_zip hy).1) (fun h₁ hns hsb => ⟨lim.fresh _ hsb, ?_⟩) D.S.kind
  show codeAny _ _ (.func F.body (envF F fI s.heap.objs.size)) _ _
  obtain ⟨c, co, hcl, hco, hcd⟩ := D.cell
  have hci : s.heap.get? c = some co := kin1 _ _ hco
  have hHc : H c = none := (e0.bs c co (e0.mod.kin _ _ hco)).2
  have CA : CellsAt F.cl [("__class__" : Str)] [some (.ref C)] s.heap H := by
    rw [hcl]
    have one : ∀ {y : Str} {c' : Addr}, ([(("__class__" : Str), c)] : List (Str × Addr)).lookup y = some c' → y = "__class__" ∧ c' = c := fun {y c'} h => by
      rw [List.lookup_cons] at h
      split at h
      · rename_i e; cases h; exact ⟨by simpa using e, rfl⟩
      · cases h
    refine ⟨rfl, fun y c' h => ?_, fun x y c' h1 h2 => (one h1).1.trans (one h2).1.symm, fun i y h => ?_⟩
    · obtain ⟨_, rfl⟩ := one h
      exact ⟨hHc, _, co, hci, hcd⟩
    · cases i with
      | zero =>
        simp at h; subst h
        refine ⟨c, by simp [List.lookup], fun v hv => ?_⟩
        simp at hv; subst hv
        exact ⟨.ref C, rfl, co, hci, hcd⟩
      | succ i => simp at h
  have kp : ∀ b o, s.heap.get? b = some o → h₁.get? b = some o := fun b o e => hsb.extBut b o (Nat.ne_of_lt (Heap.lt_size e)) (Heap.get?_push_of_some _ e)
  have I : Inv (ncx (L2.CX P w) P w K mg base N F fI A outer s H E) [] (startF N vs [some (.ref C)]) H { s with heap := h₁, toks := s.toks + (ps.zip us).length } := inv_startN D.S hr.hd e0 hl r CA hns kp
  obtain ⟨a, ts, zs, hv0, hz, hlz, hok, ea, fin⟩ := hsp
  obtain ⟨p0, p1, apos, pos, p2, rest, hbody, hasg, hst, hsw, pl, heval⟩ := D.body
  have hNl : N.length = ps.length + 1 := by rw [D.nps]; simp
  have hσ : startF N vs [some (V.ref C)] = some (.ref a) :: (zs.map some ++ [some (.ref C)]) := by
    unfold startF
    subst hv0
    have : N.length - (V.ref a :: zs).length - [some (V.ref C)].length = 0 := by rw [hNl, hl]; simp
    rw [this]; simp
  rw [hσ] at I
  have hzl : zs.length = l.length := by rw [lvs_len hz, hlz]
  have hvis : ∀ x ∈ N, Vis F.scope x := fun x hx => by
    rw [D.nps] at hx
    rcases List.mem_append.mp hx with h | h
    · exact .inl (D.S.par x h)
    · exact .inr (.inr (D.S.frk x h))
  have g := good_init (P := P) (w := w) (K := K) (mg := mg) (base := base) (f := fI) (A := A) (outer := outer) (s := s) (H := H) (E := E) hm D.S (hr.deeper _)
  have ha := sa_cons (((tr_ok 40).e g htr)) sa_nil (star_ne hst)
  obtain ⟨t, ht, tw⟩ := asgs_ok (X := ncx (L2.CX P w) P w K mg base N F fI A outer s H E) (a := a) D.sup.oex hasg D.fld hvis
  refine ks_codeAny_funcAt ?_
  rw [hbody]
  have SF : SupF (ncx (L2.CX P w) P w K mg base N F fI A outer s H E) C ps.length := by
    obtain ⟨oc2, vs2, file, tf, q1, q2, q3, q4⟩ := D.file
    obtain ⟨ar, r1, r2, r3⟩ := D.head
    have hN0 : N[0]? = some ar.arg := by
      rw [D.nps, List.getElem?_append_left (by have := (List.getElem?_eq_some_iff.mp r2).1; exact this)]
      exact r2
    refine ⟨D.ks, D.S.frk _ (by simp), hsu, ⟨fI, F.c, _, oc2, _, ar, vs2, file, tf, rfl, look, rfl, r1, rfl, q1, q2, q3, q4, hN0, hvis _ (List.mem_of_getElem? hN0), r3⟩, D.top, ?_⟩
    show N[ps.length]? = _
    rw [D.nps, List.getElem?_append_right (Nat.le_refl _)]; simp
  refine ks_wpAt_execs_cons (ks_wpAt_Expr_any ?_ (by unfold interactive; rw [show _ = ScopeKind.function from D.S.kind]; rfl) (hsw _))
  refine ks_wpAt_mono (super_at (iC := ps.length) (Q := fun H1 => H1 a = some (exo a C none) ∧ ∀ b o, H b = some o → H1 b = some o) D.sup SF I rfl ?_ ea ha (star_cons hst) (heval _) ?_) (fun v s' hq => ?_) fun _ _ z => z
  · rw [D.np, ← hzl]; simp
  · obtain ⟨st, e', hev⟩ : ∃ st e', ev C0 GN DN ie (none :: ((ts.map fun t => some (Iv.val t)) ++ [none])) = .ok (.val (.str st)) e' := by
      unfold msgOk at hok
      split at hok
      · exact ⟨_, _, by assumption⟩
      · cases hok
    refine ⟨none :: ((ts.map fun t => some (Iv.val t)) ++ [none]), fun _ => none, fun _ => [], ⟨fun i iv e => ?_, fun _ _ => rfl, fun _ _ _ h => by simp at h, fun _ _ h => by simp at h, fun _ _ h => by simp at h, ?_⟩, ?_⟩
    · cases i with
      | zero => simp at e
      | succ i =>
        rw [List.getElem?_cons_succ] at e ⊢
        by_cases hi : i < ts.length
        · rw [List.getElem?_append_left (by simpa using hi), List.getElem?_map, List.getElem?_eq_getElem hi] at e
          simp at e
          subst e
          obtain ⟨v, h1, h2⟩ := lvs_get hz (List.getElem?_eq_getElem hi)
          exact ⟨v, by rw [List.getElem?_append_left (by rw [List.length_map]; omega), List.getElem?_map, h1]; rfl, .val (lv_den h2)⟩
        · rw [List.getElem?_append_right (by simpa using hi)] at e
          cases hj : i - (ts.map fun t => some (Iv.val t)).length with
          | zero => rw [hj] at e; simp at e
          | succ j => rw [hj] at e; simp at e
    · simp [hzl, hlz]
    · show ((ev C0 GN DN ie _).bind _).asks _ _ _ _ _ _ _
      rw [hev]
      intro H' F' fp' E' s' vs' l' rr tm
      have kp' : ∀ b o, H b = some o → H' b = some o := fun b o e => s'.keep b o e fun ⟨i, o', _, h⟩ => by simp at h
      refine ⟨?_, kp' _ _ ea, kp' _ _ ea, kp'⟩
      have := rr.lens
      simp at this
      omega
  · obtain ⟨H1, J, ea1, kp1⟩ := hq
    refine wpAt_of_wpAny ?_
    have hslot : ∀ (j : Nat) (p : Str × Nat) (y : V), l[j]? = some p → zs[j]? = some y → (some (V.ref a) :: (zs.map some ++ [some (V.ref C)]))[p.2]? = some (some y) := fun j p y e1 e2 => by
      have hj : j < l.length := (List.getElem?_eq_some_iff.mp e1).1
      have h1 : (l.map (·.2))[j]? = some p.2 := by rw [List.getElem?_map, e1]; rfl
      rw [D.slots, List.getElem?_map, List.getElem?_range hj] at h1
      simp at h1
      rw [← h1, List.getElem?_cons_succ, List.getElem?_append_left (by simp; omega), List.getElem?_map, e2]
      rfl
    have q := tw (D := { nx := fun _ H' => Q .non H', rt := Q }) (H := H1) (H0 := H1) (fs := []) (ys := zs) (σ := some (V.ref a) :: (zs.map some ++ [some (V.ref C)])) rfl hzl hslot (by simp; omega) (.inl ⟨rfl, ea1, fun _ _ => rfl⟩) fun H2 hm2 => by
      rw [List.append_nil] at hm2
      rcases hm2 with ⟨e1, e2, e3⟩ | ⟨d, g1, g2, g3, g4, g5⟩
      · exfalso
        rw [List.reverse_eq_nil_iff] at e1
        have h1 := congrArg List.length e1
        rw [List.length_zip, List.length_map, hzl, Nat.min_self, List.length_nil] at h1
        exact D.ne (List.eq_nil_of_length_eq_zero h1)
      · refine fin d H2 ?_ g2 g3 g4 fun b o hb hbo => ?_
        · cases hd : H d with
          | none => rfl
          | some o => rw [kp1 d o hd] at g1; cases g1
        · have hbd : b ≠ d := fun e => by subst e; rw [kp1 b o hbo] at g1; cases g1
          rw [g5 b hb hbd]; exact kp1 b o hbo
    refine wpAny_mono (ht.run [] _ _ H1 _ J q) (fun fl s2 hs => ?_) fun e s2 hs => hs
    have fin : ∀ {σ' : L2.St} {H' : Hp} {v : V} {u : Value}, Inv (ncx (L2.CX P w) P w K mg base N F fI A outer s H E) [] σ' H' s2 → L2.RelV v u → Q v H' → CE outer P w H s Q u s2 :=
      fun {σ' H' v u} J rv q => ⟨v, H', J.os, J.bare, J.base, J.hok, rv, q⟩
    cases fl with
    | ret u =>
      obtain ⟨v, σ', H', J, rv, q⟩ := hs
      exact fin J rv q
    | next =>
      obtain ⟨σ', H', J, q⟩ := hs
      exact fin (v := V.non) (u := Value.none) J rfl q
    | brk =>
      obtain ⟨_, _, _, q⟩ := hs
      exact False.elim q
    | cont =>
      obtain ⟨_, _, _, q⟩ := hs
      exact False.elim q
end
end G
namespace G
open PySem PySem.Spec PyProof.Rows L2 NdefX

/-! # an own exception class, as the top has written it -/
/-- the n-th statement of a class -/
def clsS (st : Stmt) (n : Nat) : Stmt := match st with
  | .ClassDef _ _ _ b _ _ _ _ _ _ _ => b.getD n (.Pass ⟨0, 0, 0, 0⟩)
  | _ => .Pass ⟨0, 0, 0, 0⟩
/-- the __init__'s text -/
structure InitT (P : Program) (st : Stmt) (qual : Str) (N ps : List Str) (l : List (Str × Nat)) (msg : IE) : Prop where
  S : NScope N ps [("__class__" : Str)] (defScope st)
  ks : (defScope st).names.lookup ("super" : Str) = some .globalImplicit
  top : (P.main.scope.names.lookup ("super" : Str)).isSome = false
  head : ∃ ar, ((defArgs st).posonlyargs ++ (defArgs st).args).head? = some ar ∧ ps[0]? = some ar.arg ∧ (ar.arg == ("__classdict__" : Str)) = false
  bd : ∀ (cl : List (Str × Addr)) (c : Addr) (doc pm ctv : Value) (us : List Value), us.length = ps.length → bindArgs (NF.fd ⟨"__init__", qual, defArgs st, defBody st, defScope st, cl, c⟩ doc pm ctv) ⟨us, []⟩ = pure (ps.zip us)
  nps : N = ps ++ [("__class__" : Str)]
  body : ∃ arg p0 p1 apos pos p2 rest, (tr (gam0 N ps.length) 40).e (defScope st) false arg = some msg ∧ defBody st = .Expr (.Call (.Attribute (.Call (.Name "super" p0) [] [] p1) "__init__" apos) [arg] [] pos) p2 :: rest ∧ AsgOk N l rest ∧
    noStarE arg = true ∧ (∀ env : PySem.Env, swapsWith (.Call (.Attribute (.Call (.Name "super" p0) [] [] p1) "__init__" apos) [arg] [] pos) none p2.line env = pure false) ∧
    ∃ pl, ∀ env : PySem.Env, eval (.Call (.Attribute (.Call (.Name "super" p0) [] [] p1) "__init__" apos) [arg] [] pos) env = (do
      let ov ← attributeBase (.Call (.Name "super" p0) [] [] p1) "__init__" env (eval (.Call (.Name "super" p0) [] [] p1) env)
      standAt apos.atName
      let (f, first) ← holding [ov] (getMethod ov "__init__" pl)
      callWith pos f first (backTo pos (starEach [arg] env)) [])
  slots : l.map (·.2) = (List.range l.length).map (· + 1)
  np : ps.length = l.length + 1
  ne : l ≠ []
  len : l.length ≤ 800
/-- what the written part says, as one check -/
def xB (K : PySem.W.Frag) (C fI c : Addr) (qual : Str) (fl : List Str) : Bool :=
  decide (PySem.W.findIn K (.ref C) "__setattr__" = some (some (.builtin "object.__setattr__"))) && (decide (PySem.W.typeIn K (.ref C) = some (.type "type")) && (PySem.W.keepIn K (.ref C) &&
  (decide (PySem.W.subIn K (.ref C) (.ref C) = some true) && (decide (PySem.W.subIn K (.ref C) (.type "ValueError") = some true) && (decide (PySem.W.ks_superIn K C C "__init__" = some (some (.builtin "ValueError.__init__"))) &&
  (decide (PySem.W.nsIn K cStatics "thirdparty.any" = some none) && (xfB K C && ((PySem.W.clsIn K C).isSome && (decide (PySem.W.findIn K (.ref C) "__class__" = some (some (.builtin "object.__class__"))) &&
  (decide (PySem.W.specialIn K (.builtin "object.__class__") "__get__" = some (some (.builtin "getset_descriptor.__get__"))) && (decide (PySem.W.takesIn K (.builtin "object.__class__") = some true) && (decide (PySem.W.mroIn K C (.type "object") = some true) &&
  (decide (PySem.W.typeIn K (.ref fI) = some (.type "function")) && (PySem.W.codeIn K (.ref c) qual && fl.all fun f => decide (PySem.W.findIn K (.ref C) f = some none)))))))))))))))
structure RawX (K : PySem.W.Frag) (P : Program) (nm qual : Str) (st : Stmt) (fl : List Str) (C : Addr) : Prop where
  ns : PySem.W.nsIn K mainGlobals nm = some (some (.ref C))
  cls : ∃ nm q N bs bm sn sub ab col dd k0 k1 k2 k3 k5, K.lookup C = some (excClassObj nm q C N bs bm true sn sub ab col dd k0 k1 k2 k3 k5 "ValueError.__new__") ∧ PySem.HandSPX.refsVE bm = true
  init : ∃ (fI c cc : Addr) (oc : Value) (od : Option Addr) (doc pm ctv : Value) (sl : Array (Option Value)) (o2 o3 : Obj) (vs : Array Value) (file : Str) (tf : Tok),
    PySem.W.findIn K (.ref C) "__init__" = some (some (.ref fI)) ∧ K.lookup fI = some ⟨oc, od, .func (NF.fd ⟨"__init__", qual, defArgs st, defBody st, defScope st, [(("__class__" : Str), cc)], c⟩ doc pm ctv), sl⟩ ∧
    K.lookup c = some o2 ∧ o2.data = .fields vs ∧ vs[2]? = some (.str file tf) ∧ ((P.main.file : Str) == file) = true ∧ K.lookup cc = some o3 ∧ o3.data = .cell (some (.ref C)) ∧ xB K C fI c qual fl = true
theorem rawX_mk {K : PySem.W.Frag} {P : Program} {nm qual : Str} {st : Stmt} {fl : List Str} {C : Addr} {nm' q : Str} {N : Addr} {bs bm : List Value} {sn : List Str} {sub : List Value} {ab : Bool} {col : Option Bool} {dd : Option Addr} {k0 k1 k2 k3 k5 : Option Value}
    {fI c cc : Addr} {oc : Value} {od : Option Addr} {doc pm ctv : Value} {sl : Array (Option Value)} {o2 o3 : Obj} {vs : Array Value} {file : Str} {tf : Tok}
    (a : PySem.W.nsIn K mainGlobals nm = some (some (.ref C))) (l : K.lookup C = some (excClassObj nm' q C N bs bm true sn sub ab col dd k0 k1 k2 k3 k5 "ValueError.__new__"))
    (i : PySem.W.findIn K (.ref C) "__init__" = some (some (.ref fI))) (f : K.lookup fI = some ⟨oc, od, .func (NF.fd ⟨"__init__", qual, defArgs st, defBody st, defScope st, [(("__class__" : Str), cc)], c⟩ doc pm ctv), sl⟩)
    (x : K.lookup c = some o2) (y : K.lookup cc = some o3) (d : o2.data = .fields vs) (v : vs[2]? = some (.str file tf)) (e : ((P.main.file : Str) == file) = true) (d2 : o3.data = .cell (some (.ref C))) (r : PySem.HandSPX.refsVE bm = true) (b : xB K C fI c qual fl = true) :
    RawX K P nm qual st fl C := ⟨a, ⟨_, _, _, _, _, _, _, _, _, _, _, _, _, _, _, l, r⟩, ⟨fI, c, cc, oc, od, doc, pm, ctv, sl, o2, o3, vs, file, tf, i, f, x, d, v, e, y, d2, b⟩⟩
/-- the class, as it is used -/
structure XMade (P : Program) (K : PySem.W.Frag) (mg : Str → Option Value) (xi : XI) (C : Addr) : Prop where
  mg : mg xi.nm = some (.ref C)
  cn : ClsNm K C xi.nm
  xc : XCls K C
  ini : ∃ fI F N ps l arg doc pm ctv oc od sl, InitD K P C fI F N ps l arg ∧ l.map (·.1) = xi.fl ∧ l.length ≤ 800 ∧ (tr (gam0 N ps.length) 40).e F.scope false arg = some xi.msg ∧ K.lookup fI = some ⟨oc, od, .func (F.fd doc pm ctv), sl⟩ ∧
    PySem.W.findIn K (.ref C) "__init__" = some (some (.ref fI)) ∧ PySem.W.typeIn K (.ref fI) = some (.type "function")
theorem RawX.made {K : PySem.W.Frag} {P : Program} {mg : Str → Option Value} {h : Heap} {xi : XI} {qual : Str} {st : Stmt} {C : Addr} {N ps : List Str} {l : List (Str × Nat)} (X : K.In h) (Gn : h.Ns mainGlobals mg) (r : RawX K P xi.nm qual st xi.fl C) (t : InitT P st qual N ps l xi.msg) (hl : l.map (·.1) = xi.fl) : XMade P K mg xi C := by
  obtain ⟨fI, c, cc, oc, od, doc, pm, ctv, sl, o2, o3, vs, file, tf, i1, i2, i3, i4, i5, i6, i7, i8, b⟩ := r.init
  unfold xB at b
  simp only [Bool.and_eq_true, decide_eq_true_eq, List.all_eq_true] at b
  obtain ⟨b1, b2, b3, b4, b5, b6, b7, b8, b9, b10, b11, b12, b13, b14, b15, b16⟩ := b
  have xf := xfB_ok b8
  obtain ⟨arg, p0, p1, apos, pos, p2, rest, q1, q2, q3, q4, q5, pl, q6⟩ := t.body
  have ox : OexC K C := ⟨r.cls, b1, xf.exC, b2, b3⟩
  have D : InitD K P C fI ⟨"__init__", qual, defArgs st, defBody st, defScope st, [(("__class__" : Str), cc)], c⟩ N ps l arg :=
    { sup := ⟨ox, b4, b5, b6, b7⟩
      look := ⟨oc, od, doc, pm, ctv, sl, i2⟩
      code := b15
      file := ⟨o2, vs, file, tf, i3, i4, i5, i6⟩
      cell := ⟨cc, o3, rfl, i7, i8⟩
      S := t.S
      ks := t.ks
      top := t.top
      head := t.head
      bd := fun doc pm ctv us hu => t.bd _ _ doc pm ctv us hu
      nps := t.nps
      fld := fun p hp => b16 p.1 (by rw [← hl]; exact List.mem_map.mpr ⟨p, hp, rfl⟩)
      body := ⟨p0, p1, apos, pos, p2, rest, q2, q3, q4, q5, pl, q6⟩
      slots := t.slots
      np := t.np
      ne := t.ne }
  exact ⟨PySem.W.mg_of X Gn r.ns, r.ns, ⟨xf, b9, b10, b11, b12, b13⟩, fI, _, N, ps, l, arg, doc, pm, ctv, oc, od, sl, D, hl, t.len, q1, i2, i1, b14⟩
theorem XMade.mkx {P : Program} {K : PySem.W.Frag} {mg : Str → Option Value} {xi : XI} {C : Addr} (M : XMade P K mg xi C) (hm : ∀ x ∈ bNames, mg x = none) {X : Cx} (h1 : X.prog = P) (h2 : X.K = K) (h3 : X.mg = mg) (k : Nat) : MkX X (k + 2) xi.nm C xi.fl xi.msg := by
  subst h1 h2 h3
  obtain ⟨fI, F, N, ps, l, arg, doc, pm, ctv, oc, od, sl, D, hl, hz, ht, hk, hi, hty⟩ := M.ini
  refine ⟨D.sup.oex, M.mg, M.cn, fun f hf => ?_, fI, F.fd doc pm ctv, ps, l, hi, hty, hl, fn_init hm (hm _ (by unfold bNames; exact List.mem_cons_self)) D ht hz hk k, Binds.all fun us hu => D.bd doc pm ctv us hu⟩
  rw [← hl] at hf
  obtain ⟨p, hp, rfl⟩ := List.mem_map.mp hf
  exact D.fld p hp
/-! ## what is a subclass of what -/
/-- xs the exceptions with their places, ys the names that may be asked for -/
def xrB (K : PySem.W.Frag) (xs : List (Addr × List Str)) (ys : List (Str × Value)) : Bool := xs.all fun x => ys.all fun y => decide (PySem.W.kitOne K (.ref x.1) y.2 = some (x.2.contains y.1)) && decide (PySem.W.exmOne K (.ref x.1) y.2 = some (x.2.contains y.1))
/-- a name that may be asked for: an own class or a builtin one -/
inductive YName (K : PySem.W.Frag) : Str → Value → Prop
  | own {y : Str} {D : Addr} : PySem.W.nsIn K mainGlobals y = some (some (.ref D)) → YName K y (.ref D)
  | blt {y : Str} {T : String} : PySem.W.nsIn K mainGlobals y = some none → bootBuiltins y = some (.type T) → y ≠ "__name__" → YName K y (.type T)
/-- the facts of all of them -/
structure XFacts (P : Program) (K : PySem.W.Frag) (mg : Str → Option Value) (xs : List XI) (xn : List Str) : Prop where
  made : ∀ xi ∈ xs, ∃ C, XMade P K mg xi C
  nd : (xs.map (·.nm)).Nodup
  xn : ∀ y ∈ xn, XName K mg xs y
theorem xfacts_nil {P : Program} {K : PySem.W.Frag} {mg : Str → Option Value} : XFacts P K mg [] [] := ⟨fun _ h => (nomatch h), List.nodup_nil, fun _ h => (nomatch h)⟩
/-- row by row -/
inductive XRows (P : Program) (K : PySem.W.Frag) (mg : Str → Option Value) : List XI → List (Addr × List Str) → Prop
  | nil : XRows P K mg [] []
  | cons {xi : XI} {C : Addr} {xs : List XI} {rs : List (Addr × List Str)} : XMade P K mg xi C → XRows P K mg xs rs → XRows P K mg (xi :: xs) ((C, xi.up) :: rs)
inductive YRows (K : PySem.W.Frag) : List Str → List (Str × Value) → Prop
  | nil : YRows K [] []
  | cons {y : Str} {u : Value} {ys : List Str} {rs : List (Str × Value)} : YName K y u → YRows K ys rs → YRows K (y :: ys) ((y, u) :: rs)
theorem XRows.mem {P : Program} {K : PySem.W.Frag} {mg : Str → Option Value} {xs : List XI} {rs : List (Addr × List Str)} (h : XRows P K mg xs rs) : ∀ xi ∈ xs, ∃ C, XMade P K mg xi C ∧ (C, xi.up) ∈ rs := by
  induction h with
  | nil => intro xi h; cases h
  | cons m _ ih =>
    intro xi h
    rcases List.mem_cons.mp h with rfl | h
    · exact ⟨_, m, List.mem_cons_self⟩
    · obtain ⟨C, h1, h2⟩ := ih xi h
      exact ⟨C, h1, List.mem_cons_of_mem _ h2⟩
theorem YRows.mem {K : PySem.W.Frag} {ys : List Str} {rs : List (Str × Value)} (h : YRows K ys rs) : ∀ y ∈ ys, ∃ u, YName K y u ∧ (y, u) ∈ rs := by
  induction h with
  | nil => intro xi h; cases h
  | cons m _ ih =>
    intro xi h
    rcases List.mem_cons.mp h with rfl | h
    · exact ⟨_, m, List.mem_cons_self⟩
    · obtain ⟨C, h1, h2⟩ := ih xi h
      exact ⟨C, h1, List.mem_cons_of_mem _ h2⟩
theorem xfacts_mk {P : Program} {K : PySem.W.Frag} {mg : Str → Option Value} {h : Heap} {xs : List XI} {ys : List Str} {rs : List (Addr × List Str)} {qs : List (Str × Value)} (X : K.In h) (Gn : h.Ns mainGlobals mg) (hx : XRows P K mg xs rs) (hy : YRows K ys qs) (hnd : (xs.map (·.nm)).Nodup) (hb : xrB K rs qs = true) : XFacts P K mg xs ys := by
  refine ⟨fun xi h => (hx.mem xi h).imp fun _ h => h.1, hnd, fun y h => ?_⟩
  obtain ⟨u, hu, hm⟩ := hy.mem y h
  unfold xrB at hb
  rw [List.all_eq_true] at hb
  have rel : ∀ xi ∈ xs, ∀ C, ClsNm K C xi.nm → PySem.W.kitOne K (.ref C) u = some (xi.up.contains y) ∧ PySem.W.exmOne K (.ref C) u = some (xi.up.contains y) := fun xi hxi C hC => by
    obtain ⟨C', M, hr⟩ := hx.mem xi hxi
    have e : C' = C := by
      have h1 := M.cn
      unfold ClsNm at h1 hC
      rw [hC] at h1
      cases h1; rfl
    subst e
    have := hb _ hr
    rw [List.all_eq_true] at this
    have := this _ hm
    simpa using this
  cases hu with
  | own e => exact ⟨⟨_, _, .inl ⟨_, PySem.W.mg_of X Gn e, rfl, rfl⟩, rel⟩⟩
  | blt e h1 h2 => exact ⟨⟨_, _, .inr ⟨_, PySem.W.mg_none_of X Gn e, h1, h2, rfl, rfl⟩, rel⟩⟩
end G
namespace G
open PySem PySem.Spec PyProof.Rows L2

/-! # defs -/
structure FnI where
  np : Nat
  ns : Nat
  body : ISs
def fxOf (ivs : List Iv) (i : Nat) : Bool := match ivs[i]? with
  | some (.own _) => true
  | some (.lck _) => true
  | _ => false
def outsOf : List Iv → Env → Option (List Iv)
  | [], _ => some []
  | .val t :: ivs, _ :: env => (outsOf ivs env).map (Iv.val t :: ·)
  | .own _ :: ivs, some iv :: env => (outsOf ivs env).map (iv :: ·)
  | .lck _ :: ivs, some iv :: env => (outsOf ivs env).map (iv :: ·)
  | _ :: _, _ => none
def resOf (ivs : List Iv) : Out Sg → Res
  | .ok .nxt e => match outsOf ivs e with | some o => .ok (.val .non) o | none => .stuck
  | .ok (.ret iv) e => match outsOf ivs e with | some o => .ok iv o | none => .stuck
  | .exc x e => match outsOf ivs e with | some o => .exc x o | none => .stuck
  | _ => .stuck
/-- a def that looks at an error -/
def errS : ISs → Option SUs
  | .cons (.su s) .nil => some s
  | _ => none
def errR (m : Nat → T → Addr → Env → Out Sg) (ns : Nat) (ivs : List Iv) : Res := match ivs with
  | [.val (.tup [.adr b, .str nm, .dic kvs])] => (match m ns (.tup [.adr b, .str nm, .dic kvs]) b (some (.val (.adr b)) :: List.replicate (ns - 1) none) with
    | .ok (.ret (.val t)) _ => .ok (.val t) []
    | _ => .stuck)
  | _ => .stuck
section
variable (Pr : Nat → Option FnI) (G : Nat → T) (D : Nat → Nat → List T) (L : Nat)
noncomputable def callF : Nat → Nat → List Iv → Res
  | 0, _, _ => .stuck
  | k + 1, i, ivs => match Pr i with
    | none => .stuck
    | some f => match errS f.body with
      | some s => errR (fun _ g _ env => sus (callF k) (setG G g) D (fun _ => false) s env) f.ns ivs
      | none => if ivs.length = f.np then resOf ivs (xcs (callF k) G D (fxOf ivs) L f.body (ivs.map some ++ List.replicate (f.ns - f.np) none)) else .stuck
end
theorem outs_get : ∀ {ivs : List Iv} {env : Env} {outs : List Iv}, outsOf ivs env = some outs → outs.length = ivs.length ∧ ∀ j z, outs[j]? = some z → (∃ t, ivs[j]? = some (.val t) ∧ z = .val t) ∨ (fxOf ivs j = true ∧ env[j]? = some (some z))
  | [], env, outs, h => by simp [outsOf] at h; subst h; exact ⟨rfl, fun j z e => by simp at e⟩
  | iv :: ivs, [], outs, h => by cases iv <;> simp [outsOf] at h
  | iv :: ivs, x :: env, outs, h => by
    have key : ∀ {z0 : Iv} {o : List Iv}, outsOf ivs env = some o → outs = z0 :: o → ((∃ t, iv = .val t ∧ z0 = .val t) ∨ ((∀ t, iv ≠ .val t) ∧ x = some z0)) → outs.length = (iv :: ivs).length ∧ ∀ j z, outs[j]? = some z → (∃ t, (iv :: ivs)[j]? = some (.val t) ∧ z = .val t) ∨ (fxOf (iv :: ivs) j = true ∧ (x :: env)[j]? = some (some z)) := by
      rintro z0 o ho rfl hz
      obtain ⟨h1, h2⟩ := outs_get ho
      refine ⟨by simp [h1], fun j z e => ?_⟩
      cases j with
      | zero =>
        simp at e
        subst e
        rcases hz with ⟨t, rfl, rfl⟩ | ⟨hn, rfl⟩
        · exact .inl ⟨t, rfl, rfl⟩
        · refine .inr ⟨?_, rfl⟩
          cases iv with
          | val t => exact absurd rfl (hn t)
          | own _ => rfl
          | lck _ => rfl
      | succ j =>
        rcases h2 j z (by simpa using e) with ⟨t, h3, h4⟩ | ⟨h3, h4⟩
        · exact .inl ⟨t, by simpa using h3, h4⟩
        · exact .inr ⟨by simpa [fxOf] using h3, by simpa using h4⟩
    cases iv with
    | val t =>
      simp only [outsOf, Option.map_eq_some_iff] at h
      obtain ⟨o, ho, rfl⟩ := h
      exact key ho rfl (.inl ⟨t, rfl, rfl⟩)
    | own q =>
      cases x with
      | none => simp [outsOf] at h
      | some x =>
        simp only [outsOf, Option.map_eq_some_iff] at h
        obtain ⟨o, ho, rfl⟩ := h
        exact key ho rfl (.inr ⟨fun t => by simp, rfl⟩)
    | lck q =>
      cases x with
      | none => simp [outsOf] at h
      | some x =>
        simp only [outsOf, Option.map_eq_some_iff] at h
        obtain ⟨o, ho, rfl⟩ := h
        exact key ho rfl (.inr ⟨fun t => by simp, rfl⟩)
section
variable {K : PySem.W.Frag} {H F H' F' : Hp} {fp fp' : Nat → List Addr}
theorem app_get {ivs : List Iv} {n i : Nat} {iv : Iv} (h : (ivs.map some ++ List.replicate n none)[i]? = some (some iv)) : (ivs.map some)[i]? = some (some iv) := by
  by_cases hi : i < (ivs.map some).length
  · rwa [List.getElem?_append_left hi] at h
  · rw [List.getElem?_append_right (by omega), List.getElem?_replicate] at h
    split at h <;> cases h
/-- a def's first world -/
theorem enter {ivs : List Iv} {vs : List V} {N : List Str} {n : Nat} (E : EnvR K (ivs.map some) (vs.map some) H F fp) (hn : N.length - vs.length = n) : EnvR K (ivs.map some ++ List.replicate n none) (L2.start N vs) H F fp := by
  have hl : ivs.length = vs.length := by simpa using E.len
  refine ⟨fun i iv e => ?_, fun i hi => ?_, E.dis, E.free, E.sub, ?_⟩
  · have e1 := app_get e
    obtain ⟨v, g1, g2⟩ := E.slot i iv e1
    refine ⟨v, ?_, g2⟩
    unfold L2.start
    rw [List.getElem?_append_left (by have := (List.getElem?_eq_some_iff.mp g1).1; exact this)]
    exact g1
  · refine E.out i fun iv e => hi iv ?_
    rw [List.getElem?_append_left (by have := (List.getElem?_eq_some_iff.mp e).1; exact this)]
    exact e
  · unfold L2.start
    simp [hl, hn]
theorem enter_own {ivs : List Iv} {n : Nat} : (∀ a, (fpOf (ivs.map some ++ List.replicate n none) fp).own a ↔ (fpOf (ivs.map some) fp).own a) ∧ ∀ i a, (fpOf (ivs.map some ++ List.replicate n none) fp).lk i a ↔ (fpOf (ivs.map some) fp).lk i a := by
  have up : ∀ {i : Nat} {x : Iv}, (ivs.map some)[i]? = some (some x) → (ivs.map some ++ List.replicate n none)[i]? = some (some x) := fun {i x} e => by
    rw [List.getElem?_append_left (by have := (List.getElem?_eq_some_iff.mp e).1; exact this)]; exact e
  exact ⟨fun a => ⟨fun ⟨i, o, e, h⟩ => ⟨i, o, app_get e, h⟩, fun ⟨i, o, e, h⟩ => ⟨i, o, up e, h⟩⟩, fun i a => ⟨fun ⟨o, e, h⟩ => ⟨o, app_get e, h⟩, fun ⟨o, e, h⟩ => ⟨o, up e, h⟩⟩⟩
/-- a def's last world -/
theorem leave {ivs outs : List Iv} {vs : List V} {N : List Str} {n : Nat} {env' : Env} {σ' : L2.St} (E : EnvR K (ivs.map some) (vs.map some) H F fp) (E' : EnvR K env' σ' H' F' fp') (s : Stp (fpOf (ivs.map some ++ List.replicate n none) fp) H F (fpOf env' fp') H' F')
    (f : Fix (fxOf ivs) (L2.start N vs) σ') (ho : outsOf ivs env' = some outs) :
    EnvR K (outs.map some) (vs.map some) H' F' (fun j => if isLn ((outs.map some)[j]?) then fp' j else []) ∧ Stp (fpOf (ivs.map some) fp) H F (fpOf (outs.map some) fun j => if isLn ((outs.map some)[j]?) then fp' j else []) H' F' ∧
    ∀ l, Tmp H (fpOf (ivs.map some ++ List.replicate n none) fp) F' (fpOf env' fp') l → Tmp H (fpOf (ivs.map some) fp) F' (fpOf (outs.map some) fun j => if isLn ((outs.map some)[j]?) then fp' j else []) l := by
  obtain ⟨hl, hg⟩ := outs_get ho
  obtain ⟨ow, lw⟩ := enter_own (ivs := ivs) (n := n) (fp := fp)
  have hiv : ivs.length = vs.length := by simpa using E.len
  have sub : ∀ i a, a ∈ (if isLn ((outs.map some)[i]?) = true then fp' i else []) → a ∈ fp' i := fun i a h => by
    split at h
    · exact h
    · simp at h
  -- an owned slot behind stands in the def's frame
  have own : ∀ {j : Nat} {z : Iv}, outs[j]? = some z → (∀ t, z ≠ .val t) → env'[j]? = some (some z) := fun {j z} e hn => by
    rcases hg j z e with ⟨t, _, h2⟩ | ⟨_, h2⟩
    · exact absurd h2 (hn t)
    · exact h2
  have oget : ∀ {j : Nat} {z : Iv}, (outs.map some)[j]? = some (some z) → outs[j]? = some z := fun {j z} e => by
    rw [List.getElem?_map] at e
    simpa using e
  refine ⟨⟨fun j iv ej => ?_, fun j hj => ?_, fun i j a ha hb => E'.dis i j a (sub i a ha) (sub j a hb), fun j a ha => E'.free j a (sub j a ha), E'.sub, by simp [hl, hiv]⟩, ⟨fun a o e hn => s.keep a o e fun z => hn ((ow a).mp z), s.fz, fun a h => (s.nfz a h).imp id (Or.imp (ow a).mp id), fun a h => ?_, fun a h => ?_, fun j a h => ?_⟩, fun l t a ha => ?_⟩
  · rw [ej]
    have ej := oget ej
    rcases hg j iv ej with ⟨t, h1, rfl⟩ | ⟨h1, h2⟩
    · obtain ⟨v, g1, g2⟩ := E.slot j (.val t) (by rw [List.getElem?_map, h1]; rfl)
      refine ⟨v, g1, ?_⟩
      cases hz : fp j with
      | nil => rw [hz] at g2; cases g2 with | val d => exact .val (d.mono s.fz)
      | cons a as =>
        obtain ⟨_, _, w⟩ := g2.one (a := a) (by rw [hz]; exact List.mem_cons_self)
        exact absurd rfl (w _)
    · obtain ⟨v, g1, g2⟩ := E'.slot j iv h2
      rw [f.at_ j h1] at g1
      have hj : j < vs.length := by have := (List.getElem?_eq_some_iff.mp ej).1; omega
      unfold L2.start at g1
      rw [List.getElem?_append_left (by simpa using hj)] at g1
      refine ⟨v, g1, ?_⟩
      cases iv with
      | val t =>
        cases hz : fp' j with
        | nil => rw [hz] at g2; exact g2
        | cons a as =>
          obtain ⟨_, _, w⟩ := g2.one (a := a) (by rw [hz]; exact List.mem_cons_self)
          exact absurd rfl (w _)
      | own o => exact g2
      | lck o => exact g2
  · cases q : (outs.map some)[j]? with
    | none => simp [isLn]
    | some x =>
      cases x with
      | none => simp [isLn]
      | some iv => exact absurd q (hj iv)
  · obtain ⟨j, o, ej, hj⟩ := h
    exact (s.own a ⟨j, o, own (oget ej) (fun t => by simp), sub j a hj⟩).imp (ow a).mp id
  · obtain ⟨j, hj⟩ := h
    have : (fpOf env' fp').all a := ⟨j, sub j a hj⟩
    exact (s.all a this).imp id id
  · obtain ⟨o, ej, hj⟩ := h
    exact (lw j a).mp (s.lk j a ⟨o, own (oget ej) (fun t => by simp), sub j a hj⟩)
  · obtain ⟨h1, h2, h3⟩ := t a ha
    exact ⟨h1, fun ⟨j, hj⟩ => h2 ⟨j, sub j a hj⟩, h3.imp (ow a).mp id⟩
end

/-! # a program's defs, level by level -/
/-- a def as it stands behind the top -/
structure FnK (K : PySem.W.Frag) (x q : Str) (st : Stmt) (f : Addr) (fd : FuncData) : Prop where
  ex : ∃ (oc : Value) (od : Option Addr) (dV kV doc pm : Value) (an : Option Addr) (cdv ct : Value) (osl : Array (Option Value)),
    fd = PySem.W.fnOf x q (defArgs st) (defBody st) (defScope st) dV kV doc pm an cdv ct ∧ K.lookup f = some ⟨oc, od, .func fd, osl⟩ ∧ PySem.W.codeIn K cdv q = true
  kp : PySem.W.keepIn K (.ref f) = true
/-- what a program's names are -/
structure Names0 where
  fs : List (Str × Nat)
  gs : List (Str × Nat)
  gcd : Bool
  lf : Option Str
  dn : List Str
  rq : Bool
  xs : List XI
  xn : List Str
  os : List OI
  es : List (Str × Nat)
def Names0.at_ (n : Names0) (N : List Str) (np : Nat) : Gam := ⟨N, np, n.fs, n.gs, n.gcd, n.lf, n.dn, n.rq, n.xs, n.xn, n.os, n.es, true⟩
structure Row (K : PySem.W.Frag) (nm : Names0) (Pr : Nat → Option FnI) (D : Nat → Nat → List T) (i : Nat) (x q : Str) (st : Stmt) (N ps : List Str) (f : Addr) (fd : FuncData) : Prop where
  fn : FnK K x q st f fd
  sc : FnScope N ps (defScope st)
  pr : ∃ I, Pr i = some I ∧ I.np = ps.length ∧ I.ns = N.length ∧ errS I.body = none ∧ trSs (nm.at_ N ps.length) (tr (nm.at_ N ps.length) 40) (defScope st) 60 (defBody st) = some I.body
  bd : ∀ n, ∃ dvs ds, Vals dvs ds ∧ (∀ F, DenAll K F dvs (D i n)) ∧ Binds K fd ps ds
/-- a def that looks at an error -/
structure ERow (K : PySem.W.Frag) (nm : Names0) (Pr : Nat → Option FnI) (i : Nat) (x q : Str) (st : Stmt) (N ps : List Str) (f : Addr) (fd : FuncData) : Prop where
  fn : FnK K x q st f fd
  sc : FnScope N ps (defScope st)
  pr : ∃ I s, Pr i = some I ∧ errS I.body = some s ∧ I.ns = N.length ∧ ps.length = 1 ∧ trUs (nm.at_ N 1).cool (tr (nm.at_ N 1).cool 40) (defScope st) 60 (defBody st) = some s
  bd : Binds K fd ps []
/-- what is known of a class of plain objects -/
structure OFacts (K : PySem.W.Frag) (mg : Str → Option Value) (nm : Names0) (Pr : Nat → Option FnI) (D : Nat → Nat → List T) (oi : OI) : Prop where
  ex : ∃ C, mg oi.nm = some (.ref C) ∧ ClsNm K C oi.nm ∧ Cls K C ∧ (∀ f ∈ oi.fl, NoAttr K C f) ∧ (∀ m i, oi.ms.lookup m = some i → ∃ q st N ps f fd, Meth K C m f ∧ Row K nm Pr D i m q st N ps f fd) ∧
    ∀ i, oi.ini = some i → ∃ q st N ps f fd, Mk K C f ∧ Row K nm Pr D i "__init__" q st N ps f fd
structure Facts (P : Program) (K : PySem.W.Frag) (mg : Str → Option Value) (nm : Names0) (Pr : Nat → Option FnI) (G : Nat → T) (D : Nat → Nat → List T) : Prop where
  fn : ∀ x i, nm.fs.lookup x = some i → ∃ st N ps f fd, mg x = some (.ref f) ∧ Row K nm Pr D i x x st N ps f fd
  gl : ∀ x j, nm.gs.lookup x = some j → ∃ v u, mg x = some u ∧ RelV v u ∧ ∀ F, Den K F v (G j)
  blt : ∀ x ∈ bNames, mg x = none
  gcd : nm.gcd = true → mg "gcd" = some (.builtin "math.gcd")
  lf : ∀ x, nm.lf = some x → ∃ f, mg x = some (.ref f) ∧ LfOk K mg f
  gne : (nm.gs.all fun p => decide (p.2 ≠ eK)) = true
  xf : XFacts P K mg nm.xs nm.xn
  ob : ∀ oi ∈ nm.os, OFacts K mg nm Pr D oi
  er : ∀ x i, nm.es.lookup x = some i → ∃ st N ps f fd, mg x = some (.ref f) ∧ ERow K nm Pr i x x st N ps f fd
theorem room_hu {k : Nat} {A : Around} (r : Room k A) : A.units + 65 < cLine := by have := r.un; omega
theorem gne_of {l : List (Str × Nat)} (h : (l.all fun p => decide (p.2 ≠ eK)) = true) : ∀ x j, l.lookup x = some j → j ≠ eK := fun x j e => by
  rw [List.all_eq_true] at h
  simpa using h _ (lookup_mem e)
section
variable {gq : Bool} {P : Program} {w : World} {K : PySem.W.Frag} {mg : Str → Option Value} {base : Heap} {nm : Names0} {Pr : Nat → Option FnI} {G : Nat → T} {D : Nat → Nat → List T} {L : Nat}
theorem good_mk {X : Cx} {W : WX} {N : List Str} {np k : Nat} {sc : Scope} {G' : Nat → T} (cb : Bool) (hq : nm.rq = true → gq = true) (hb : gq = true → ∃ m, base.Ns sysModules m) (Fa : Facts P K mg nm Pr G D)
    (lv : ∀ {i : Nat} {x xq : Str} {st : Stmt} {N ps : List Str} {f : Addr} {fd : FuncData}, Row K nm Pr D i x xq st N ps f fd → FnG gq P w K mg base (2 * k + 2) f fd ps (spF K (callF Pr G D L k i)))
    (le : ∀ {i : Nat} {x xq : Str} {st : Stmt} {N ps : List Str} {f : Addr} {fd : FuncData}, ERow K nm Pr i x xq st N ps f fd → FnE gq P w K mg base (2 * k + 2) f fd ps (nm.xs.map (·.nm)) (callF Pr G D L k i))
    (h1 : X.prog = P) (h2 : X.w = w) (h3 : X.K = K) (h4 : X.mg = mg) (h5 : X.base = base) (hs : X.env.scope = sc) (hk : sc.kind = .function) (hN : X.N = N) (nd : N.Nodup) (hc : cb = true → X.calm = true) (hr : cb = true → Room (2 * k + 2 + 1) X.A) (rh : RoomH (2 * k + 2 + 1) X.A)
    (hgd : gq = true → X.A.guards = some []) (tk : Takes X W) (hl : ∀ x, isLoc sc x = true → Loc X.env.scope x ∧ (X.fn x = true ∨ X.env.scope.names.lookup x = some .local)) (hG : ∀ j, j ≠ eK → G' j = G j)
    (her : cb = false → ∃ a nm' fs, G' eK = encE a nm' fs ∧ (∃ xi ∈ nm.xs, xi.nm = nm') ∧ ErrX X a nm' fs) : Good gq { nm.at_ N np with calm := cb } (callF Pr G D L k) G' D X W (2 * k + 2) sc sc := by
  subst h1 h2 h3 h4 h5
  exact
      { scope := hs
        kind := hk
        N := hN
        nd := by rw [hN]; exact nd
        calm := hc
        room := hr
        k2 := fun _ => Nat.le_add_left 2 _
        rh := rh
        hu := by have := rh.un; omega
        gd := hgd
        rq := hq
        sm := hb
        takes := tk
        loc := hl
        fn := fun y j hj => by
          obtain ⟨st', N', ps', f', fd', hmg, R'⟩ := Fa.fn y j hj
          exact ⟨f', fd', ps', hmg, R'.fn.kp, lv R', R'.bd⟩
        gl := fun x j hj => by
          obtain ⟨v, u, g1, g2, g3⟩ := Fa.gl x j hj
          exact ⟨v, u, g1, g2, fun F => by rw [hG j (gne_of Fa.gne x j hj)]; exact g3 F⟩
        blt := Fa.blt
        gcd := Fa.gcd
        lf := Fa.lf
        gne := gne_of Fa.gne
        xc := fun xi h C hC => by
          obtain ⟨C', M⟩ := Fa.xf.made xi h
          have e : C' = C := by
            have h1 : ClsNm X.K C' xi.nm := M.cn
            have h2 : ClsNm X.K C xi.nm := hC
            unfold ClsNm at h1 h2
            rw [h2] at h1
            cases h1; rfl
          subst e
          exact M.xc
        xmk := fun xi h => by
          obtain ⟨C', M⟩ := Fa.xf.made xi h
          exact ⟨C', M.mkx Fa.blt rfl rfl rfl (2 * k)⟩
        xnd := Fa.xf.nd
        xn := Fa.xf.xn
        fo := fun fl nm0 hn C0 hC => by
          obtain ⟨oi, h1, rfl⟩ := List.mem_map.mp hn
          obtain ⟨h2, h3⟩ := List.mem_filter.mp h1
          obtain ⟨C1, _, c1, c2, c3, _⟩ := (Fa.ob oi h2).ex
          have e := c1.same hC
          subst e
          exact ⟨c2, c3 fl (by simpa using h3)⟩
        mo := fun m nm0 i0 hi n => by
          obtain ⟨oi, h2, h3⟩ := List.mem_filterMap.mp (lookup_mem hi)
          obtain ⟨i1, h4, h5⟩ := Option.map_eq_some_iff.mp h3
          cases h5
          refine ⟨fun C0 hC => ?_⟩
          obtain ⟨C1, _, c1, c2, _, c4, _⟩ := (Fa.ob oi h2).ex
          have e := c1.same hC
          subst e
          obtain ⟨q0, st', N', ps', f', fd', hM, R'⟩ := c4 m _ h4
          obtain ⟨dvs, ds, d1, d2, d3⟩ := R'.bd n
          exact ⟨c2, f', fd', ps', dvs, ds, hM, lv R', d1, d2, d3⟩
        co := fun c0 i0 hi => by
          obtain ⟨oi, h1, h2⟩ := Option.bind_eq_some_iff.mp hi
          have hm := List.mem_of_find?_eq_some h1
          have hn : oi.nm = c0 := by simpa using List.find?_some h1
          subst hn
          obtain ⟨C1, c0, c1, c2, _, _, c5⟩ := (Fa.ob oi hm).ex
          obtain ⟨q0, st', N', ps', f', fd', hM, R'⟩ := c5 i0 h2
          exact ⟨C1, f', fd', ps', c0, c1, hM, lv R', R'.bd⟩
        ecs := fun x i hi => by
          obtain ⟨st', N', ps', f', fd', hmg, R'⟩ := Fa.er x i hi
          obtain ⟨_, _, _, _, _, hone, _⟩ := R'.pr
          exact ⟨f', fd', ps', hmg, R'.fn.kp, hone, R'.bd, le R'⟩
        er := her }
theorem level_step {k : Nat} (hq : nm.rq = true → gq = true) (hb : gq = true → ∃ m, base.Ns sysModules m) (Fa : Facts P K mg nm Pr G D)
    (lv : ∀ {i : Nat} {x xq : Str} {st : Stmt} {N ps : List Str} {f : Addr} {fd : FuncData}, Row K nm Pr D i x xq st N ps f fd → FnG gq P w K mg base (2 * k + 2) f fd ps (spF K (callF Pr G D L k i)))
    (le : ∀ {i : Nat} {x xq : Str} {st : Stmt} {N ps : List Str} {f : Addr} {fd : FuncData}, ERow K nm Pr i x xq st N ps f fd → FnE gq P w K mg base (2 * k + 2) f fd ps (nm.xs.map (·.nm)) (callF Pr G D L k i))
    {i : Nat} {x xq : Str} {st : Stmt} {N ps : List Str} {f : Addr} {fd : FuncData} (R : Row K nm Pr D i x xq st N ps f fd) : FnG gq P w K mg base (2 * (k + 1) + 2) f fd ps (spF K (callF Pr G D L (k + 1) i)) := by
    obtain ⟨⟨oc, od, dV, kV, doc, pm, an, cdv, ct, osl, rfl, lk, hcd⟩, kp⟩ := R.fn
    obtain ⟨I, hI, hnp, hns, hes, hbody⟩ := R.pr
    have lens : ∀ vs H Q E, spF K (callF Pr G D L (k + 1) i) vs H Q E → vs.length = ps.length := fun vs H Q E h => by
      obtain ⟨ivs, F, fp, E, q⟩ := h
      have hl : ivs.length = vs.length := by simpa using E.len
      by_cases hz : ivs.length = I.np
      · omega
      · simp only [callF, hI, hes, if_neg hz] at q
    refine fn_g lk hcd R.sc lens fun A outer s H vs Q Ex hr hgd hsp => ?_
    have hlen := lens _ _ _ _ hsp
    obtain ⟨ivs, F, fp, E, q⟩ := hsp
    have hl : ivs.length = vs.length := by simpa using E.len
    have hz : ivs.length = I.np := by omega
    have g : Good gq (nm.at_ N ps.length) (callF Pr G D L k) G D (cxOf (CX P w) P w K mg base N xq (defScope st) f cdv A outer s H Ex) (fun cls d _ H => Ex cls d H) (2 * k + 2) (defScope st) (defScope st) :=
      good_mk true hq hb Fa lv le rfl rfl rfl rfl rfl rfl R.sc.kind rfl R.sc.nd (fun _ => rfl) (fun _ => hr) (roomH_of hr) hgd (takes_of rfl rfl rfl rfl) (fun y hy => ⟨isLoc_or hy, .inl rfl⟩) (fun _ _ => rfl) fun h => by cases h
    refine ⟨_, trSs_ok (fx := fxOf ivs) (L := L) rfl (tr_ok 40) 60 g (passes_of rfl) ⟨rfl, rfl⟩ hbody, ivs.map some ++ List.replicate (I.ns - I.np) none, F, fp, enter E (by omega), ?_⟩
    simp only [callF, hI, hes, if_pos hz] at q
    cases er : xcs (callF Pr G D L k) G D (fxOf ivs) L I.body (ivs.map some ++ List.replicate (I.ns - I.np) none) with
    | stuck => rw [er] at q; exact q.elim
    | exc z env' =>
      rw [er] at q
      intro cls d σ' H' F' fp' E' t f' xr
      simp only [resOf] at q
      split at q
      · rename_i outs ho
        split at ho
        · rename_i o ho'
          cases ho
        · cases ho
      · rename_i z' outs ho
        split at ho
        · rename_i o ho'
          cases ho
          obtain ⟨e1, e2, e3⟩ := leave E E' t f' ho'
          exact q cls d H' F' _ e1 e2 xr
        · cases ho
      · exact q.elim
    | ok sg env' =>
      rw [er] at q
      intro σ' H' F' fp' E' t f'
      cases sg with
      | brk => exact q.elim
      | cnt => exact q.elim
      | nxt =>
        simp only [resOf] at q
        cases ho : outsOf ivs env' with
        | none => rw [ho] at q; exact q.elim
        | some o =>
          rw [ho] at q
          obtain ⟨e1, e2, e3⟩ := leave E E' t f' ho
          exact q H' F' _ e1 e2 .non [] (.val .non) .nil
      | ret iv =>
        simp only [resOf] at q
        cases ho : outsOf ivs env' with
        | none => rw [ho] at q; exact q.elim
        | some o =>
          rw [ho] at q
          obtain ⟨e1, e2, e3⟩ := leave E E' t f' ho
          exact fun v l hv tm => q H' F' _ e1 e2 v l hv (e3 l tm)
theorem level_err {k : Nat} (hq : nm.rq = true → gq = true) (hb : gq = true → ∃ m, base.Ns sysModules m) (Fa : Facts P K mg nm Pr G D)
    (lv : ∀ {i : Nat} {x xq : Str} {st : Stmt} {N ps : List Str} {f : Addr} {fd : FuncData}, Row K nm Pr D i x xq st N ps f fd → FnG gq P w K mg base (2 * k + 2) f fd ps (spF K (callF Pr G D L k i)))
    (le : ∀ {i : Nat} {x xq : Str} {st : Stmt} {N ps : List Str} {f : Addr} {fd : FuncData}, ERow K nm Pr i x xq st N ps f fd → FnE gq P w K mg base (2 * k + 2) f fd ps (nm.xs.map (·.nm)) (callF Pr G D L k i))
    {i : Nat} {x xq : Str} {st : Stmt} {N ps : List Str} {f : Addr} {fd : FuncData} (R : ERow K nm Pr i x xq st N ps f fd) : FnE gq P w K mg base (2 * (k + 1) + 2) f fd ps (nm.xs.map (·.nm)) (callF Pr G D L (k + 1) i) := by
  obtain ⟨⟨oc, od, dV, kV, doc, pm, an, cdv, ct, osl, rfl, lk, hcd⟩, kp⟩ := R.fn
  obtain ⟨I, su, hI, hes, hns, hone, hbody⟩ := R.pr
  refine fn_e lk hcd R.sc hone fun A outer s H a pn nm' fs Q hr hgd er hnm want => ?_
  obtain ⟨F, sF, want⟩ := want
  have g : Good gq { nm.at_ N 1 with calm := false } (callF Pr G D L k) (setG G (encE a nm' fs)) D (cxE P w K mg base N xq (defScope st) f cdv A outer s H pn) W0 (2 * k + 2) (defScope st) (defScope st) :=
    good_mk false hq hb Fa lv le rfl rfl rfl rfl rfl rfl R.sc.kind rfl R.sc.nd (fun h => by cases h) (fun h => by cases h) hr hgd (fun u s' x => by
      obtain ⟨_, _, _, _, _, _, _, _, _, _, _, _, _, _, _, _, w⟩ := x
      exact w.elim) (fun y hy => ⟨isLoc_or hy, .inl rfl⟩) (fun j hj => by unfold setG; rw [if_neg hj]) fun _ => ⟨a, nm', fs, by unfold setG; rw [if_pos rfl], by
        obtain ⟨xi, h1, h2⟩ := List.mem_map.mp hnm
        exact ⟨xi, h1, h2⟩, er _ rfl rfl⟩
  have hbody' := trUs_ok (fx := fun _ => false) (tr_ok 40) g 60 hbody
  refine ⟨_, hbody', some (.val (.adr a)) :: List.replicate (I.ns - 1) none, F, fun _ => [], ?_, ?_⟩
  · refine ⟨fun j iv ej => ?_, fun _ _ => rfl, fun _ _ _ h => by simp at h, fun _ _ h => by simp at h, sF, ?_⟩
    · cases j with
      | zero => cases ej; exact ⟨.ref a, rfl, .val (.adr a)⟩
      | succ j =>
        rw [List.getElem?_cons_succ, List.getElem?_replicate] at ej
        split at ej <;> cases ej
    · unfold L2.start
      simp [hns]
  · simp only [callF, hI, hes] at want
    unfold encE at want
    simp only [errR] at want
    show (sus (callF Pr G D L k) (setG G (encE a nm' fs)) D (fun _ => false) su (some (.val (.adr a)) :: List.replicate (I.ns - 1) none)).askS _ _ _ _ _ _ _ _
    unfold encE
    cases er' : sus (callF Pr G D L k) (setG G (.tup [.adr a, .str nm', .dic (kvT fs)])) D (fun _ => false) su (some (.val (.adr a)) :: List.replicate (I.ns - 1) none) with
    | stuck => rw [er'] at want; exact want.elim
    | exc z e => rw [er'] at want; exact want.elim
    | ok sg e =>
      rw [er'] at want
      cases sg with
      | nxt => exact want.elim
      | brk => exact want.elim
      | cnt => exact want.elim
      | ret iv =>
        cases iv with
        | own o => exact want.elim
        | lck o => exact want.elim
        | val t =>
          intro σ' H' F' fp' E' t' f' v l iv tm
          cases iv with
          | val d =>
          have noown : ∀ b, ¬ (fpOf (some (.val (.adr a)) :: List.replicate (I.ns - 1) none) fun _ => []).own b := fun b ⟨j, o, _, hj⟩ => by simp at hj
          exact want H' F' (fun b o hb => t'.keep b o hb (noown b)) t'.fz E'.sub (fun b hb => (t'.nfz b hb).imp id fun z => z.elim (fun z => absurd z (noown b)) id) v d
theorem levels (hq : nm.rq = true → gq = true) (hb : gq = true → ∃ m, base.Ns sysModules m) (Fa : Facts P K mg nm Pr G D) : ∀ (k : Nat), (∀ {i : Nat} {x xq : Str} {st : Stmt} {N ps : List Str} {f : Addr} {fd : FuncData}, Row K nm Pr D i x xq st N ps f fd → FnG gq P w K mg base (2 * k + 2) f fd ps (spF K (callF Pr G D L k i))) ∧
    ∀ {i : Nat} {x xq : Str} {st : Stmt} {N ps : List Str} {f : Addr} {fd : FuncData}, ERow K nm Pr i x xq st N ps f fd → FnE gq P w K mg base (2 * k + 2) f fd ps (nm.xs.map (·.nm)) (callF Pr G D L k i)
  | 0 => ⟨fun R => ⟨fun vs H Q E h => by obtain ⟨_, _, _, _, q⟩ := h; exact q.elim, fun A outer s H args us vs Q E _ _ _ _ _ h => by obtain ⟨_, _, _, _, q⟩ := h; exact q.elim⟩,
      fun R => ⟨fun A outer s H a pn nm' fs Q _ _ _ _ _ _ _ want => by obtain ⟨_, _, q⟩ := want; exact q.elim⟩⟩
  | k + 1 => ⟨fun R => level_step hq hb Fa (levels hq hb Fa k).1 (levels hq hb Fa k).2 R, fun R => level_err hq hb Fa (levels hq hb Fa k).1 (levels hq hb Fa k).2 R⟩
theorem level (hq : nm.rq = true → gq = true) (hb : gq = true → ∃ m, base.Ns sysModules m) (Fa : Facts P K mg nm Pr G D) (k : Nat) {i : Nat} {x xq : Str} {st : Stmt} {N ps : List Str} {f : Addr} {fd : FuncData} (R : Row K nm Pr D i x xq st N ps f fd) : FnG gq P w K mg base (2 * k + 2) f fd ps (spF K (callF Pr G D L k i)) := (levels hq hb Fa k).1 R
end
end G
namespace G
open PySem PySem.Spec PyProof.Rows L2

/-! # the end of a law -/
/-- a def as the top has written it (no defaults) -/
structure Raw (K : PySem.W.Frag) (x : Str) (st : Stmt) (f : Addr) : Prop where
  ns : PySem.W.nsIn K mainGlobals x = some (some (.ref f))
  ex : ∃ (oc : Value) (od : Option Addr) (kV doc pm : Value) (an : Option Addr) (cdv ct : Value) (osl : Array (Option Value)),
    K.lookup f = some ⟨oc, od, .func (PySem.W.fnOf x x (defArgs st) (defBody st) (defScope st) .none kV doc pm an cdv ct), osl⟩ ∧ PySem.W.codeIn K cdv x = true
  kp : PySem.W.keepIn K (.ref f) = true
theorem raw_mk {K : PySem.W.Frag} {x : Str} {st : Stmt} {f : Addr} {oc : Value} {od : Option Addr} {kV doc pm : Value} {an : Option Addr} {cdv ct : Value} {osl : Array (Option Value)}
    (a : PySem.W.nsIn K mainGlobals x = some (some (.ref f))) (l : K.lookup f = some ⟨oc, od, .func (PySem.W.fnOf x x (defArgs st) (defBody st) (defScope st) .none kV doc pm an cdv ct), osl⟩)
    (c : PySem.W.codeIn K cdv x = true) (k : PySem.W.keepIn K (.ref f) = true) : ∃ f, Raw K x st f := ⟨f, a, ⟨_, _, _, _, _, _, _, _, _, l, c⟩, k⟩
/-- names that the top does not write -/
def NoneOf (K : PySem.W.Frag) : List Str → Prop
  | [] => True
  | x :: xs => PySem.W.nsIn K mainGlobals x = some none ∧ NoneOf K xs
/-- how a def's arguments are bound, whatever else stands in it -/
def BindsAll (x : Str) (st : Stmt) (ps : List Str) : Prop := ∀ (kV doc pm : Value) (an : Option Addr) (cdv ct : Value) (us : List Value), us.length = ps.length →
  bindArgs (PySem.W.fnOf x x (defArgs st) (defBody st) (defScope st) .none kV doc pm an cdv ct) ⟨us, []⟩ = pure (ps.zip us)
/-- a row of a program's table -/
structure Tab (nm : Names0) (Pr : Nat → Option FnI) (i : Nat) (x : Str) (st : Stmt) (N ps : List Str) : Prop where
  sc : FnScope N ps (defScope st)
  pr : ∃ I, Pr i = some I ∧ I.np = ps.length ∧ I.ns = N.length ∧ errS I.body = none ∧ trSs (nm.at_ N ps.length) (tr (nm.at_ N ps.length) 40) (defScope st) 60 (defBody st) = some I.body
  bd : BindsAll x st ps
section
variable {K : PySem.W.Frag} {mg : Str → Option Value} {h : Heap} {nm : Names0} {Pr : Nat → Option FnI} {G : Nat → T}
theorem Raw.row {D : Nat → Nat → List T} {i : Nat} {x : Str} {st : Stmt} {N ps : List Str} {f : Addr} (X : K.In h) (Gn : h.Ns mainGlobals mg) (r : Raw K x st f) (t : Tab nm Pr i x st N ps) (hD : ∀ n, D i n = []) : ∃ fd, mg x = some (.ref f) ∧ Row K nm Pr D i x x st N ps f fd ∧ ∀ us : List Value, us.length = ps.length → bindArgs fd ⟨us, []⟩ = pure (ps.zip us) := by
  obtain ⟨oc, od, kV, doc, pm, an, cdv, ct, osl, l, c⟩ := r.ex
  have b : Binds K (PySem.W.fnOf x x (defArgs st) (defBody st) (defScope st) .none kV doc pm an cdv ct) ps [] := Binds.all fun us hl => t.bd kV doc pm an cdv ct us hl
  exact ⟨_, PySem.W.mg_of X Gn r.ns, ⟨⟨⟨_, _, _, _, _, _, _, _, _, _, rfl, l, c⟩, r.kp⟩, t.sc, t.pr, fun n => ⟨[], [], .nil, fun F => by rw [hD n]; exact .nil, b⟩⟩, fun us hl => t.bd kV doc pm an cdv ct us hl⟩
theorem none_all (X : K.In h) (Gn : h.Ns mainGlobals mg) : ∀ {l : List Str}, NoneOf K l → ∀ x ∈ l, mg x = none
  | [], _, x, hx => by simp at hx
  | y :: l, ⟨h1, h2⟩, x, hx => by
    rcases List.mem_cons.mp hx with e | hx
    · rw [e]; exact PySem.W.mg_none_of X Gn h1
    · exact none_all X Gn h2 x hx
end
/-- a def as the top has written it, its last parameter's default an int -/
structure RawD (K : PySem.W.Frag) (x : Str) (st : Stmt) (f : Addr) (z : Int) : Prop where
  ns : PySem.W.nsIn K mainGlobals x = some (some (.ref f))
  ex : ∃ (oc : Value) (od : Option Addr) (kV doc pm : Value) (an : Option Addr) (cdv ct : Value) (osl : Array (Option Value)) (a : Addr) (o : Obj) (t : Tok) (n : Nat),
    K.lookup f = some ⟨oc, od, .func (PySem.W.fnOf x x (defArgs st) (defBody st) (defScope st) (.ref a) kV doc pm an cdv ct), osl⟩ ∧ PySem.W.codeIn K cdv x = true ∧ K.lookup a = some o ∧ o.data = .seq #[.int z t] n
  kp : PySem.W.keepIn K (.ref f) = true
theorem rawD_mk {K : PySem.W.Frag} {x : Str} {st : Stmt} {f : Addr} {oc : Value} {od : Option Addr} {kV doc pm : Value} {an : Option Addr} {cdv ct : Value} {osl : Array (Option Value)} {a2 : Addr} {o : Obj} {z : Int} {t : Tok} {n : Nat}
    (a : PySem.W.nsIn K mainGlobals x = some (some (.ref f))) (l : K.lookup f = some ⟨oc, od, .func (PySem.W.fnOf x x (defArgs st) (defBody st) (defScope st) (.ref a2) kV doc pm an cdv ct), osl⟩)
    (c : PySem.W.codeIn K cdv x = true) (k : PySem.W.keepIn K (.ref f) = true) (l2 : K.lookup a2 = some o) (e : o.data = .seq #[.int z t] n) : ∃ f, RawD K x st f z := ⟨f, a, ⟨_, _, _, _, _, _, _, _, _, _, _, _, _, l, c, l2, e⟩, k⟩
/-- how a def with one default binds, whatever else stands in it -/
def BindsDfl (x : Str) (st : Stmt) (ps : List Str) (z : Int) : Prop := ∀ (a : Addr) (kV doc pm : Value) (an : Option Addr) (cdv ct : Value) (t : Tok),
  (∀ us : List Value, us.length = ps.length → ∃ k, bindArgs (PySem.W.fnOf x x (defArgs st) (defBody st) (defScope st) (.ref a) kV doc pm an cdv ct) ⟨us, []⟩ = seqItems? (.ref a) >>= k ∧ k (some #[.int z t]) = pure (ps.zip us)) ∧
  ∀ us : List Value, us.length + 1 = ps.length → ∃ k, bindArgs (PySem.W.fnOf x x (defArgs st) (defBody st) (defScope st) (.ref a) kV doc pm an cdv ct) ⟨us, []⟩ = seqItems? (.ref a) >>= k ∧ k (some #[.int z t]) = pure (ps.zip (us ++ [.int z t]))
structure TabD (nm : Names0) (Pr : Nat → Option FnI) (i : Nat) (x : Str) (st : Stmt) (N ps : List Str) (z : Int) : Prop where
  sc : FnScope N ps (defScope st)
  pr : ∃ I, Pr i = some I ∧ I.np = ps.length ∧ I.ns = N.length ∧ errS I.body = none ∧ trSs (nm.at_ N ps.length) (tr (nm.at_ N ps.length) 40) (defScope st) 60 (defBody st) = some I.body
  bd : BindsDfl x st ps z
theorem RawD.row {K : PySem.W.Frag} {mg : Str → Option Value} {h : Heap} {nm : Names0} {Pr : Nat → Option FnI} {D : Nat → Nat → List T} {i : Nat} {x : Str} {st : Stmt} {N ps : List Str} {f : Addr} {z : Int} (X : K.In h) (Gn : h.Ns mainGlobals mg) (r : RawD K x st f z) (t : TabD nm Pr i x st N ps z) (hD : ∀ n, D i n = [] ∨ D i n = [.int z]) : ∃ fd, mg x = some (.ref f) ∧ Row K nm Pr D i x x st N ps f fd := by
  obtain ⟨oc, od, kV, doc, pm, an, cdv, ct, osl, a, o, tk, n, l, c, l2, e⟩ := r.ex
  refine ⟨_, PySem.W.mg_of X Gn r.ns, ⟨⟨⟨_, _, _, _, _, _, _, _, _, _, rfl, l, c⟩, r.kp⟩, t.sc, t.pr, fun m => ?_⟩⟩
  rcases hD m with q | q
  · refine ⟨[], [], .nil, fun F => by rw [q]; exact .nil, fun s us KX hl => ?_⟩
    rw [List.append_nil] at hl ⊢
    obtain ⟨k, e1, e2⟩ := (t.bd a kV doc pm an cdv ct tk).1 us hl
    refine L2.BindsTo.of_looks fun M => ?_
    rw [e1]
    exact looks_items KX l2 e (by rw [e2]; exact .of_pure rfl)
  · refine ⟨[.int z], [.int z tk], .cons ⟨tk, rfl⟩ .nil, fun F => by rw [q]; exact .cons (.int z) .nil, fun s us KX hl => ?_⟩
    obtain ⟨k, e1, e2⟩ := (t.bd a kV doc pm an cdv ct tk).2 us (by simpa using hl)
    refine L2.BindsTo.of_looks fun M => ?_
    rw [e1]
    exact looks_items KX l2 e (by rw [e2]; exact .of_pure rfl)
/-- a def that looks at an error, in the table -/
structure TabE (nm : Names0) (Pr : Nat → Option FnI) (i : Nat) (x : Str) (st : Stmt) (N ps : List Str) : Prop where
  sc : FnScope N ps (defScope st)
  pr : ∃ I s, Pr i = some I ∧ errS I.body = some s ∧ I.ns = N.length ∧ ps.length = 1 ∧ trUs (nm.at_ N 1).cool (tr (nm.at_ N 1).cool 40) (defScope st) 60 (defBody st) = some s
  bd : BindsAll x st ps
theorem Raw.erow {K : PySem.W.Frag} {mg : Str → Option Value} {h : Heap} {nm : Names0} {Pr : Nat → Option FnI} {i : Nat} {x : Str} {st : Stmt} {N ps : List Str} {f : Addr} (X : K.In h) (Gn : h.Ns mainGlobals mg) (r : Raw K x st f) (t : TabE nm Pr i x st N ps) : ∃ fd, mg x = some (.ref f) ∧ ERow K nm Pr i x x st N ps f fd := by
  obtain ⟨oc, od, kV, doc, pm, an, cdv, ct, osl, l, c⟩ := r.ex
  exact ⟨_, PySem.W.mg_of X Gn r.ns, ⟨⟨_, _, _, _, _, _, _, _, _, _, rfl, l, c⟩, r.kp⟩, t.sc, t.pr, Binds.all fun us hl => t.bd kV doc pm an cdv ct us hl⟩
/-! ## classes of plain objects -/
structure TabM (nm : Names0) (Pr : Nat → Option FnI) (i : Nat) (x q : Str) (st : Stmt) (N ps : List Str) : Prop where
  sc : FnScope N ps (defScope st)
  pr : ∃ I, Pr i = some I ∧ I.np = ps.length ∧ I.ns = N.length ∧ errS I.body = none ∧ trSs (nm.at_ N ps.length) (tr (nm.at_ N ps.length) 40) (defScope st) 60 (defBody st) = some I.body
  bd : ∀ (kV doc pm : Value) (an : Option Addr) (cdv ct : Value) (us : List Value), us.length = ps.length → bindArgs (PySem.W.fnOf x q (defArgs st) (defBody st) (defScope st) .none kV doc pm an cdv ct) ⟨us, []⟩ = pure (ps.zip us)
structure RawM (K : PySem.W.Frag) (C : Addr) (x q : Str) (st : Stmt) (f : Addr) : Prop where
  me : Meth K C x f
  ex : ∃ (oc : Value) (od : Option Addr) (kV doc pm : Value) (an : Option Addr) (cdv ct : Value) (osl : Array (Option Value)),
    K.lookup f = some ⟨oc, od, .func (PySem.W.fnOf x q (defArgs st) (defBody st) (defScope st) .none kV doc pm an cdv ct), osl⟩ ∧ PySem.W.codeIn K cdv q = true
theorem rawM_mk {K : PySem.W.Frag} {C : Addr} {x q : Str} {st : Stmt} {f : Addr} {oc : Value} {od : Option Addr} {kV doc pm : Value} {an : Option Addr} {cdv ct : Value} {osl : Array (Option Value)}
    (a : PySem.W.findIn K (.ref C) x = some (some (.ref f))) (l : K.lookup f = some ⟨oc, od, .func (PySem.W.fnOf x q (defArgs st) (defBody st) (defScope st) .none kV doc pm an cdv ct), osl⟩)
    (c : PySem.W.codeIn K cdv q = true) (n : PySem.W.isFn K (.ref f) = true) (k : PySem.W.keepIn K (.ref f) = true) : ∃ f, RawM K C x q st f := ⟨f, ⟨a, n, k⟩, ⟨_, _, _, _, _, _, _, _, _, l, c⟩⟩
theorem RawM.row {K : PySem.W.Frag} {C : Addr} {nm : Names0} {Pr : Nat → Option FnI} {D : Nat → Nat → List T} {i : Nat} {x q : Str} {st : Stmt} {N ps : List Str} {f : Addr} (r : RawM K C x q st f) (t : TabM nm Pr i x q st N ps) (hD : ∀ n, D i n = []) : ∃ fd, Row K nm Pr D i x q st N ps f fd := by
  obtain ⟨oc, od, kV, doc, pm, an, cdv, ct, osl, l, c⟩ := r.ex
  have b : Binds K (PySem.W.fnOf x q (defArgs st) (defBody st) (defScope st) .none kV doc pm an cdv ct) ps [] := Binds.all fun us hl => t.bd kV doc pm an cdv ct us hl
  exact ⟨_, ⟨⟨_, _, _, _, _, _, _, _, _, _, rfl, l, c⟩, r.me.kp⟩, t.sc, t.pr, fun n => ⟨[], [], .nil, fun F => by rw [hD n]; exact .nil, b⟩⟩
def oB (K : PySem.W.Frag) (C : Addr) (fl : List Str) : Bool := PySem.W.plainGet K C Str.empty && (PySem.W.hasDictIn K C && (PySem.W.plainOver K C && (decide (PySem.W.findIn K (.ref C) "__setattr__" = some (some (.builtin "object.__setattr__"))) && (PySem.W.makesIn K C && (PySem.W.keepIn K (.ref C) && fl.all fun f => decide (PySem.W.findIn K (.ref C) f = some none))))))
theorem ofacts_mk {K : PySem.W.Frag} {mg : Str → Option Value} {h : Heap} {nm : Names0} {Pr : Nat → Option FnI} {D : Nat → Nat → List T} {oi : OI} {C : Addr} (X : K.In h) (Gn : h.Ns mainGlobals mg) (a : PySem.W.nsIn K mainGlobals oi.nm = some (some (.ref C))) (b : oB K C oi.fl = true)
    (ms : ∀ m i, oi.ms.lookup m = some i → ∃ q st N ps f fd, Meth K C m f ∧ Row K nm Pr D i m q st N ps f fd) (ini : ∀ i, oi.ini = some i → ∃ q st N ps f fd, Meth K C "__init__" f ∧ Row K nm Pr D i "__init__" q st N ps f fd) : OFacts K mg nm Pr D oi := by
  unfold oB at b
  simp only [Bool.and_eq_true, decide_eq_true_eq, List.all_eq_true] at b
  obtain ⟨b1, b2, b3, b4, b5, b6, b7⟩ := b
  refine ⟨C, PySem.W.mg_of X Gn a, a, ⟨b1, b2, b3, b4⟩, b7, ms, fun i hi => ?_⟩
  obtain ⟨q, st, N, ps, f, fd, hM, R⟩ := ini i hi
  exact ⟨q, st, N, ps, f, fd, ⟨b5, hM.at_, hM.fn, b6⟩, R⟩
/-- a name that holds a pair of ints -/
theorem glob_pair {K : PySem.W.Frag} {mg : Str → Option Value} {h : Heap} {x : Str} {a : Addr} {o : Obj} {i j : Int} {t t' : Tok} {n : Nat} (X : K.In h) (Gn : h.Ns mainGlobals mg) (e : PySem.W.nsIn K mainGlobals x = some (some (.ref a))) (l : K.lookup a = some o) (hc : o.cls = .type "tuple")
    (d : o.data = .seq #[.int i t, .int j t'] n) : ∃ v u, mg x = some u ∧ RelV v u ∧ ∀ F, Den K F v (.tup [.int i, .int j]) :=
  ⟨.ref a, .ref a, PySem.W.mg_of X Gn e, rfl, fun F => .tup (vs := [.int i, .int j]) (.inr ⟨o, _, n, l, hc, d, by show 2 ≤ sizeLine; decide, .cons ⟨t, rfl⟩ (.cons ⟨t', rfl⟩ .nil)⟩) (.cons (.int i) (.cons (.int j) .nil))⟩
/-- a name that holds an int -/
theorem glob_int {K : PySem.W.Frag} {mg : Str → Option Value} {h : Heap} {x : Str} {i : Int} {t : Tok} (X : K.In h) (Gn : h.Ns mainGlobals mg) (e : PySem.W.nsIn K mainGlobals x = some (some (.int i t))) : ∃ v u, mg x = some u ∧ RelV v u ∧ ∀ F, Den K F v (.int i) :=
  ⟨.int i, .int i t, PySem.W.mg_of X Gn e, ⟨t, rfl⟩, fun F => .int i⟩
/-- a name that holds a text -/
theorem glob_str {K : PySem.W.Frag} {mg : Str → Option Value} {h : Heap} {x z : Str} {t : Tok} (X : K.In h) (Gn : h.Ns mainGlobals mg) (e : PySem.W.nsIn K mainGlobals x = some (some (.str z t))) : ∃ v u, mg x = some u ∧ RelV v u ∧ ∀ F, Den K F v (.str z) :=
  ⟨.str z, .str z t, PySem.W.mg_of X Gn e, ⟨t, rfl⟩, fun F => .str z⟩
/-- .. a tuple of texts -/
def strsV : List Value → Option (List Str)
  | [] => some []
  | .str s _ :: us => (strsV us).map (s :: ·)
  | _ => none
theorem strsV_rel {K : PySem.W.Frag} {F : Hp} : ∀ {us : List Value} {ss : List Str}, strsV us = some ss → Vals (ss.map V.str) us ∧ DenAll K F (ss.map V.str) (ss.map T.str)
  | [], ss, h => by simp [strsV] at h; subst h; exact ⟨.nil, .nil⟩
  | u :: us, ss, h => by
    cases u <;> simp [strsV] at h
    obtain ⟨ss', h1, rfl⟩ := h
    obtain ⟨q1, q2⟩ := strsV_rel (K := K) (F := F) h1
    exact ⟨.cons ⟨_, rfl⟩ q1, .cons (.str _) q2⟩
theorem glob_strs {K : PySem.W.Frag} {mg : Str → Option Value} {h : Heap} {x : Str} {a : Addr} {o : Obj} {us : List Value} {ss : List Str} {n : Nat} (X : K.In h) (Gn : h.Ns mainGlobals mg) (e : PySem.W.nsIn K mainGlobals x = some (some (.ref a))) (l : K.lookup a = some o) (hc : o.cls = .type "tuple")
    (d : o.data = .seq us.toArray n) (hs : strsV us = some ss) (hl : ss.length ≤ 1000) : ∃ v u, mg x = some u ∧ RelV v u ∧ ∀ F, Den K F v (.tup (ss.map T.str)) :=
  ⟨.ref a, .ref a, PySem.W.mg_of X Gn e, rfl, fun F => .tup (vs := ss.map V.str) (.inr ⟨o, _, n, l, hc, d, by have h1 := (strsV_rel (K := K) (F := F) hs).1.length; rw [List.length_map] at h1; rw [List.size_toArray, ← h1]; exact Nat.le_trans hl (by decide), (strsV_rel (K := K) (F := F) hs).1⟩) (strsV_rel hs).2⟩
/-- what the law's def promises -/
def spLaw (Pr : Nat → Option FnI) (G : Nat → T) (D : Nat → Nat → List T) (k i : Nat) (K : PySem.W.Frag) : Sp := fun vs H Q E => ∃ L, spF K (callF Pr G D L k i) vs H Q E
theorem law_ok {P : Program} {w : World} {K : PySem.W.Frag} {mg : Str → Option Value} {base : Heap} {nm : Names0} {Pr : Nat → Option FnI} {G : Nat → T} {D : Nat → Nat → List T} (hb : ∃ m, base.Ns sysModules m) (Fa : Facts P K mg nm Pr G D) {k i : Nat} {x : Str} {st : Stmt} {N ps : List Str} {f : Addr} {fd : FuncData}
    (R : Row K nm Pr D i x x st N ps f fd) : FnG true P w K mg base (2 * k + 2) f fd ps (spLaw Pr G D k i K) := by
  have F : ∀ L, FnG true P w K mg base (2 * k + 2) f fd ps (spF K (callF Pr G D L k i)) := fun L => level (fun _ => rfl) (fun _ => hb) Fa k R
  refine ⟨fun vs H Q E ⟨L, h⟩ => (F L).len vs H Q E h, fun A outer s H args us vs Q E hr hg he hb hv ⟨L, h⟩ => ?_⟩
  exact (F L).run A outer s H args us vs Q E hr hg he hb hv h
/-- the script, and the answer -/
theorem script_ok {Pr : Nat → Option FnI} {G : Nat → T} {D : Nat → Nat → List T} {k i : Nat} {K : PySem.W.Frag} {H : Hp} {a : Addr} {ns : List Int} (hO : Only H) (hS : SqL K H a (ns.map V.int))
    (law : ∃ L outs, callF Pr G D L k i [.val (.rlst (ns.map T.int))] = .ok (.val (.bl true)) outs) : spLaw Pr G D k i K [.ref a] H (fun v _ => v = .bl true) fun _ _ _ => False := by
  obtain ⟨L, outs, e⟩ := law
  refine ⟨L, [.val (.rlst (ns.map T.int))], H, fun _ => [], ⟨fun j iv ej => ?_, fun _ _ => rfl, fun _ _ _ h => by simp at h, fun _ _ h => by simp at h, fun _ _ h => h, rfl⟩, ?_⟩
  · cases j with
    | zero => cases ej; exact ⟨_, rfl, .val (.rlst hS (.of_ints ns))⟩
    | succ j => simp at ej
  · rw [e]
    intro H' F' fp' E' t v l iv tm
    cases iv with
    | val d => cases d; rfl
theorem cx_no {P : Program} {w : World} : ∀ (H : Hp) (s : Shared) (e : Value) (s' : Shared), CX P w [] H s (fun _ _ _ => False) e s' → False := fun H s e s' h => by
  obtain ⟨_, _, _, _, _, _, _, _, _, _, _, _, q⟩ := h
  exact q
/-! # from the top to the law's call; nothing is being shown there -/
theorem law_run {P : Program} {w : World} {K : PySem.W.Frag} {mg mb : Str → Option Value} {k : Nat} {fa a : Addr} {fd : FuncData} {x : Str} {sp : Sp} {s : Shared} {us : List Value} {ns : List Int}
    (kin : K.In s.heap) (gl : s.heap.Ns mainGlobals mg) (bl : s.heap.Ns builtinsNs mb) (bb : ∀ y : Str, y ≠ "__name__" → mb y = bootBuiltins y) (nl : s.heap.NoLimit) (sy : ∃ m, s.heap.Ns sysModules m) (ng : s.gens = #[])
    (ob : s.heap.get? a = some { cls := .type "list", data := .seq us.toArray }) (it : IntsAre us ns) (sz : ns.length ≤ sizeLine) (rm : Room k callerA)
    (fn : ∀ b0 : Heap, K.In b0 → b0.Ns mainGlobals mg → (∃ m, b0.Ns sysModules m) → FnG true P w K mg b0 k fa fd [x] sp) (bi : ∀ (s0 : Shared) (v : Value), BindsTo s0 fd ⟨[v], []⟩ [(x, v)])
    (pr : ∀ H : Hp, Only H → SqL K H a (ns.map V.int) → sp [.ref a] H (fun v _ => v = .bl true) fun _ _ _ => False) :
    codeAny (model P w) callerA (.call (.ref fa) ⟨[.ref a], []⟩) (fun r s' => r = .ok (.ret (.bool true)) ∧ OldK s.heap s'.heap ∧ s'.os = s.os ∧ AllBare s'.gens) s := by
  have rel := vals_ints it
  have hlen := it.length
  -- H tells of the script alone
  have main : ∀ H : Hp, Only H → SqL K H a (ns.map V.int) → HOk P w H s.heap → (∀ b, b ≠ a → H b = none) → (H a ≠ none → K.lookup a = none) →
      codeAny (model P w) callerA (.call (.ref fa) ⟨[.ref a], []⟩) (fun r s' => r = .ok (.ret (.bool true)) ∧ OldK s.heap s'.heap ∧ s'.os = s.os ∧ AllBare s'.gens) s := by
    intro H only sq ok off inK
    have up : ∀ {b : Addr} {o : Obj}, s.heap.get? b = some o → H b = none → (hidT s.heap H).get? b = some o := fun p q => hidT_get p q
    have dicts : ∀ {b : Addr} {o : Obj} {es : Array DictEntry} {ep : Nat}, s.heap.get? b = some o → o.data = .dict es ep → H b = none := fun {b o es ep} p q => by
      by_cases hb : b = a
      · subst hb
        rw [ob] at p
        cases p
        cases (show Data.seq us.toArray _ = Data.dict es ep from q)
      · exact off b hb
    have spaces : ∀ {b : Addr} {m : Str → Option Value}, s.heap.Ns b m → (hidT s.heap H).Ns b m := fun {b m} ⟨o, es, ep, p, q, r⟩ => ⟨o, es, ep, up p (dicts p q), q, r⟩
    have kin' : K.In (hidT s.heap H) := fun b o p => up (kin b o p) (by
      by_cases hb : b = a
      · subst hb
        by_cases hz : H b = none
        · exact hz
        · rw [inK hz] at p; cases p
      · exact off b hb)
    have md : Mod K mg (hidT s.heap H) := by
      obtain ⟨mc, n1, n2⟩ := nl
      exact ⟨kin', spaces gl, ⟨mb, spaces bl, bb⟩, ⟨mc, spaces n1, n2⟩⟩
    have env0 : Env0 P w K mg (hidT s.heap H) callerA [] s H := ⟨rfl, md, fun b o p => of_hidT p, Nat.le_of_eq (hidT_size _ _), trivial, (fun b hb => absurd (show b ∈ ([] : List Addr) from hb) (by simp)), ok, AllBare.of_eq ng⟩
    refine codeAny_mono ((fn _ kin' (spaces gl) (sy.imp fun _ z => spaces z)).run callerA [] s H ⟨[.ref a], []⟩ [.ref a] [.ref a] _ _ rm (fun _ => rfl) env0 (bi s (.ref a)) (.cons rfl .nil) (pr H only sq)) fun r s' res => ?_
    match r, res with
    | .error e, res => exact (cx_no H s e s' res).elim
    | .ok .next, res => exact False.elim res
    | .ok .brk, res => exact False.elim res
    | .ok .cont, res => exact False.elim res
    | .ok (.ret u), res =>
      obtain ⟨v, H', os, bare, un, ok', rv, rfl⟩ := res
      obtain rfl : u = Value.bool true := rv
      refine ⟨rfl, OldK.of_keep fun b o p => ?_, os, bare⟩
      rcases only b with z | ⟨ob', xs, z⟩
      · exact un.keep b o p z (fun q => by cases q) (by simp)
      · obtain ⟨p1, _⟩ := ok b _ z
        obtain ⟨p2, _⟩ := ok' b _ (un.frzs b ob' _ z)
        rw [p] at p1
        cases p1
        exact p2
  cases hk : K.lookup a with
  | none =>
    refine main (fun b => if b = a then some (.frz { cls := .type "list", data := .seq us.toArray } (.lst (ns.map V.int))) else none) (fun b => ?_) (.inl (.inr ⟨{ cls := .type "list", data := .seq us.toArray }, if_pos rfl⟩)) (fun b u z => ?_) (fun b hb => if_neg hb) fun _ => hk
    · by_cases hb : b = a
      · exact .inr ⟨_, _, if_pos hb⟩
      · exact .inl (if_neg hb)
    · by_cases hb : b = a
      · have z := (if_pos hb).symm.trans z
        cases z
        subst hb
        exact ⟨ob, by rw [List.length_map]; exact sz, us, _, rel, ob⟩
      · cases (if_neg hb).symm.trans z
  | some o =>
    have p := kin a o hk
    rw [ob] at p
    cases p
    refine main (fun _ => none) (fun _ => .inl rfl) (.inr ⟨_, us.toArray, _, hk, rfl, rfl, rfl, ?_, by simpa using rel⟩) (fun b u z => ?_) (fun b _ => rfl) fun z => absurd rfl z
    · rw [List.size_toArray, hlen]; exact sz
    · cases (show (none : Option HO) = some u from z)
/-- the goal that the head leaves -/
theorem walk_g {l : PySem.W.OpenLaw} {n k : Nat} {q : Program} {loose : List Str} {XP : (Str → Option Value) → Heap → Prop} {YP : World → Heap → Prop} {d : DefRec} {K : Params → PySem.W.Frag} {sp : PySem.W.Frag → Sp} {x : Str}
    (hi : importsNone q = true) (hn : l.most = some n) (hs : n ≤ sizeLine) (hd : d.params.defaults = []) (rm : Room k callerA) (hY : ∀ (w : World) (h : Heap), YP w h → (K w.params).In h)
    (F : ∀ (w : World) (mg : Str → Option Value) (fa : Addr) (h : Heap), (K w.params).In h → h.Ns mainGlobals mg → mg d.name = some (.ref fa) →
      ∃ fd : FuncData, (∀ (s : Shared) (v : Value), BindsTo s fd ⟨[v], []⟩ [(x, v)]) ∧ ∀ b0 : Heap, (K w.params).In b0 → b0.Ns mainGlobals mg → (∃ m, b0.Ns sysModules m) → FnG true l.prog w (K w.params) mg b0 k fa fd [x] (sp (K w.params)))
    (pr : ∀ (w : World) (H : Hp) (a : Addr) (ns : List Int), ns.length ≤ n → Only H → SqL (K w.params) H a (ns.map V.int) → sp (K w.params) [.ref a] H (fun v _ => v = .bl true) fun _ _ _ => False) :
    PySem.W.WalkO q loose XP YP l.row.toRowW d [] (fun f vs => PySem.call f vs) := by
  refine Att.attach_call hn hd fun w s₀ s mg mb fa o pm cd doc a us ns G Y ho hob hcd hmg hobj hints hlen hg => ?_
  have kin := hY w _ Y
  obtain ⟨fd, hb, hF⟩ := F w mg fa _ kin G.T.g hmg
  exact law_run kin G.T.g G.T.b G.T.builtins G.T.nolimit (let ⟨m, z, _⟩ := (G.T.seer hi).mods; ⟨m, z⟩) hg hobj hints (Nat.le_trans hlen hs) rm hF hb fun H only sq => pr w H a ns hlen only sq
end G
namespace G
open PySem PySem.Spec PyProof.Rows L2

/-! # what a text computes, as rules for simp -/
@[simp] theorem s_bind_ok {α β : Type} {a : α} {e : Env} {f : α → Env → Out β} : (Out.ok a e).bind f = f a e := rfl
@[simp] theorem s_bind_exc {α β : Type} {a : Xv} {e : Env} {f : α → Env → Out β} : (Out.exc a e).bind f = .exc a e := rfl
@[simp] theorem s_ev_1 : ∀ (C : Nat → List G.Iv → G.Res) (Gl : Nat → G.T) (D : Nat → Nat → List G.T) (x : G.Env) (i : Nat),
  G.ev C Gl D (G.IE.var i) x =
    match x[i]? with
    | Option.some (Option.some (G.Iv.val t)) => G.Out.ok (G.R.val t) x
    | Option.some (Option.some val) => G.Out.ok (G.R.loan i) x
    | x => G.Out.stuck := @G.ev.eq_1
@[simp] theorem s_ev_2 : ∀ (C : Nat → List G.Iv → G.Res) (Gl : Nat → G.T) (D : Nat → Nat → List G.T) (x : G.Env) (i : Nat),
  G.ev C Gl D (G.IE.mov i) x =
    match x[i]? with
    | Option.some (Option.some (G.Iv.val t)) => G.Out.ok (G.R.val t) x
    | Option.some (Option.some (G.Iv.own o)) => G.Out.ok (G.R.val (G.frz o)) (List.set x i (Option.some (G.Iv.val (G.frz o))))
    | x => G.Out.stuck := @G.ev.eq_2
@[simp] theorem s_ev_3 : ∀ (C : Nat → List G.Iv → G.Res) (Gl : Nat → G.T) (D : Nat → Nat → List G.T) (x : G.Env), G.ev C Gl D G.IE.non x = G.Out.ok (G.R.val G.T.non) x := @G.ev.eq_3
@[simp] theorem s_ev_4 : ∀ (C : Nat → List G.Iv → G.Res) (Gl : Nat → G.T) (D : Nat → Nat → List G.T) (x : G.Env) (b : Bool), G.ev C Gl D (G.IE.bl b) x = G.Out.ok (G.R.val (G.T.bl b)) x := @G.ev.eq_4
@[simp] theorem s_ev_5 : ∀ (C : Nat → List G.Iv → G.Res) (Gl : Nat → G.T) (D : Nat → Nat → List G.T) (x : G.Env) (b : Int), G.ev C Gl D (G.IE.int b) x = G.Out.ok (G.R.val (G.T.int b)) x := @G.ev.eq_5
@[simp] theorem s_ev_6 : ∀ (C : Nat → List G.Iv → G.Res) (Gl : Nat → G.T) (D : Nat → Nat → List G.T) (x : G.Env) (b : PySem.Str), G.ev C Gl D (G.IE.str b) x = G.Out.ok (G.R.val (G.T.str b)) x := @G.ev.eq_6
@[simp] theorem s_ev_7 : ∀ (C : Nat → List G.Iv → G.Res) (Gl : Nat → G.T) (D : Nat → Nat → List G.T) (x : G.Env) (j : Nat), G.ev C Gl D (G.IE.glob j) x = G.Out.ok (G.R.val (Gl j)) x := @G.ev.eq_7
@[simp] theorem s_ev_8 : ∀ (C : Nat → List G.Iv → G.Res) (Gl : Nat → G.T) (D : Nat → Nat → List G.T) (x : G.Env) (op : PySem.Operator) (a b : G.IE), G.ev C Gl D (G.IE.bin op a b) x = G.Out.bind (G.ev C Gl D a x) fun (ra : G.R) (e1 : G.Env) => G.Out.bind (G.ev C Gl D b e1) fun (rb : G.R) (e2 : G.Env) => G.ofO (Option.bind (G.lookT e2 ra) fun (x : G.T) => Option.bind (G.lookT e2 rb) fun (y : G.T) => Option.map G.rvR (G.binR op x y)) e2 := @G.ev.eq_8
@[simp] theorem s_ev_9 : ∀ (C : Nat → List G.Iv → G.Res) (Gl : Nat → G.T) (D : Nat → Nat → List G.T) (x : G.Env) (a : G.IE),
  G.ev C Gl D (G.IE.neg a) x =
    G.Out.bind (G.ev C Gl D a x) fun (ra : G.R) (e1 : G.Env) =>
      match ra with
      | G.R.val (G.T.int i) => G.Out.ok (G.R.val (G.T.int (-i))) e1
      | x => G.Out.stuck := @G.ev.eq_9
@[simp] theorem s_ev_10 : ∀ (C : Nat → List G.Iv → G.Res) (Gl : Nat → G.T) (D : Nat → Nat → List G.T) (x : G.Env) (a : G.IE),
  G.ev C Gl D (G.IE.not a) x =
    G.Out.bind (G.ev C Gl D a x) fun (ra : G.R) (e1 : G.Env) =>
      match ra with
      | G.R.val (G.T.bl i) => G.Out.ok (G.R.val (G.T.bl !i)) e1
      | x => G.Out.stuck := @G.ev.eq_10
@[simp] theorem s_ev_11 : ∀ (C : Nat → List G.Iv → G.Res) (Gl : Nat → G.T) (D : Nat → Nat → List G.T) (x : G.Env) (a b : G.IE),
  G.ev C Gl D (G.IE.and a b) x =
    G.Out.bind (G.ev C Gl D a x) fun (ra : G.R) (e1 : G.Env) =>
      match ra with
      | G.R.val (G.T.bl Bool.true) => G.ev C Gl D b e1
      | G.R.val (G.T.bl Bool.false) => G.Out.ok (G.R.val (G.T.bl Bool.false)) e1
      | x => G.Out.stuck := @G.ev.eq_11
@[simp] theorem s_ev_12 : ∀ (C : Nat → List G.Iv → G.Res) (Gl : Nat → G.T) (D : Nat → Nat → List G.T) (x : G.Env) (a b : G.IE),
  G.ev C Gl D (G.IE.or a b) x =
    G.Out.bind (G.ev C Gl D a x) fun (ra : G.R) (e1 : G.Env) =>
      match ra with
      | G.R.val (G.T.bl Bool.false) => G.ev C Gl D b e1
      | G.R.val (G.T.bl Bool.true) => G.Out.ok (G.R.val (G.T.bl Bool.true)) e1
      | x => G.Out.stuck := @G.ev.eq_12
@[simp] theorem s_ev_13 : ∀ (C : Nat → List G.Iv → G.Res) (Gl : Nat → G.T) (D : Nat → Nat → List G.T) (x : G.Env) (op : PySem.CmpOp) (a b : G.IE), G.ev C Gl D (G.IE.cmp op a b) x = G.Out.bind (G.ev C Gl D a x) fun (ra : G.R) (e1 : G.Env) => G.Out.bind (G.ev C Gl D b e1) fun (rb : G.R) (e2 : G.Env) => G.ofO (Option.bind (G.lookT e2 ra) fun (x : G.T) => Option.bind (G.lookT e2 rb) fun (y : G.T) => Option.map (fun (b : Bool) => G.R.val (G.T.bl b)) (G.cmpR op x y)) e2 := @G.ev.eq_13
@[simp] theorem s_ev_14 : ∀ (C : Nat → List G.Iv → G.Res) (Gl : Nat → G.T) (D : Nat → Nat → List G.T) (x : G.Env) (op op' : PySem.CmpOp) (a b c : G.IE),
  G.ev C Gl D (G.IE.chain op op' a b c) x =
    G.Out.bind (G.ev C Gl D a x) fun (ra : G.R) (e1 : G.Env) =>
      G.Out.bind (G.ev C Gl D b e1) fun (rb : G.R) (e2 : G.Env) =>
        match Option.bind (G.lookT e2 ra) fun (x : G.T) => Option.bind (G.lookT e2 rb) fun (y : G.T) => G.cmpR op x y with
        | Option.some Bool.true => G.Out.bind (G.ev C Gl D c e2) fun (rc : G.R) (e3 : G.Env) => G.ofO (Option.bind (G.lookT e3 rb) fun (x : G.T) => Option.bind (G.lookT e3 rc) fun (y : G.T) => Option.map (fun (b : Bool) => G.R.val (G.T.bl b)) (G.cmpR op' x y)) e3
        | Option.some Bool.false => G.Out.ok (G.R.val (G.T.bl Bool.false)) e2
        | Option.none => G.Out.stuck := @G.ev.eq_14
@[simp] theorem s_ev_15 : ∀ (C : Nat → List G.Iv → G.Res) (Gl : Nat → G.T) (D : Nat → Nat → List G.T) (x : G.Env) (c : G.IB) (a b : G.IE), G.ev C Gl D (G.IE.ifx c a b) x = G.Out.bind (G.evT C Gl D c x) fun (k : Bool) (e1 : G.Env) => if k = Bool.true then G.ev C Gl D a e1 else G.ev C Gl D b e1 := @G.ev.eq_15
@[simp] theorem s_ev_16 : ∀ (C : Nat → List G.Iv → G.Res) (Gl : Nat → G.T) (D : Nat → Nat → List G.T) (x : G.Env) (es : G.IEs), G.ev C Gl D (G.IE.tup es) x = G.Out.bind (G.evs C Gl D es x) fun (rs : List G.R) (e1 : G.Env) => G.ofO (Option.bind (G.escs e1 rs) fun (ts : List G.T) => if List.length ts ≤ PySem.sizeLine then Option.some (G.R.val (G.T.tup ts)) else Option.none) e1 := @G.ev.eq_16
@[simp] theorem s_ev_17 : ∀ (C : Nat → List G.Iv → G.Res) (Gl : Nat → G.T) (D : Nat → Nat → List G.T) (x : G.Env) (es : G.IEs), G.ev C Gl D (G.IE.lst es) x = G.Out.bind (G.evs C Gl D es x) fun (rs : List G.R) (e1 : G.Env) => G.ofO (Option.bind (G.escs e1 rs) fun (ts : List G.T) => if List.length ts ≤ PySem.sizeLine then Option.some (G.R.new (G.Ow.lst ts)) else Option.none) e1 := @G.ev.eq_17
@[simp] theorem s_ev_18 : ∀ (C : Nat → List G.Iv → G.Res) (Gl : Nat → G.T) (D : Nat → Nat → List G.T) (x : G.Env), G.ev C Gl D G.IE.dnew x = G.Out.ok (G.R.new (G.Ow.dic [])) x := @G.ev.eq_18
@[simp] theorem s_ev_19 : ∀ (C : Nat → List G.Iv → G.Res) (Gl : Nat → G.T) (D : Nat → Nat → List G.T) (x : G.Env) (f : Nat) (args : G.IEs), G.ev C Gl D (G.IE.call f args) x = G.Out.bind (G.evs C Gl D args x) fun (rs : List G.R) (e1 : G.Env) => G.callR C f (D f (G.IEs.len args)) e1 rs := @G.ev.eq_19
@[simp] theorem s_ev_20 : ∀ (C : Nat → List G.Iv → G.Res) (Gl : Nat → G.T) (D : Nat → Nat → List G.T) (x : G.Env) (b : G.BI) (args : G.IEs), G.ev C Gl D (G.IE.bi b args) x = G.Out.bind (G.evs C Gl D args x) fun (rs : List G.R) (e1 : G.Env) => G.ofO (Option.bind (G.looks e1 rs) fun (ts : List G.T) => Option.map G.rvR (G.biR b ts)) e1 := @G.ev.eq_20
@[simp] theorem s_ev_21 : ∀ (C : Nat → List G.Iv → G.Res) (Gl : Nat → G.T) (D : Nat → Nat → List G.T) (x : G.Env) (a : G.IE) (tys : List String), G.ev C Gl D (G.IE.isin a tys) x = G.Out.bind (G.ev C Gl D a x) fun (ra : G.R) (e1 : G.Env) => G.ofO (Option.bind (G.lookT e1 ra) fun (t : G.T) => if G.isDicT t = Bool.true then Option.none else Option.some (G.R.val (G.T.bl (G.isinR t tys)))) e1 := @G.ev.eq_21
@[simp] theorem s_ev_22 : ∀ (C : Nat → List G.Iv → G.Res) (Gl : Nat → G.T) (D : Nat → Nat → List G.T) (x : G.Env) (a i : G.IE), G.ev C Gl D (G.IE.ix a i) x = G.Out.bind (G.ev C Gl D a x) fun (ra : G.R) (e1 : G.Env) => G.Out.bind (G.ev C Gl D i e1) fun (ri : G.R) (e2 : G.Env) => G.ofO (Option.bind (G.lookT e2 ra) fun (x : G.T) => Option.bind (G.lookT e2 ri) fun (y : G.T) => Option.map G.R.val (G.ixR x y)) e2 := @G.ev.eq_22
@[simp] theorem s_ev_23 : ∀ (C : Nat → List G.Iv → G.Res) (Gl : Nat → G.T) (D : Nat → Nat → List G.T) (x : G.Env) (a : G.IE) (lo hi : G.IO), G.ev C Gl D (G.IE.sl a lo hi) x = G.Out.bind (G.ev C Gl D a x) fun (ra : G.R) (e1 : G.Env) => G.Out.bind (G.evO C Gl D lo e1) fun (rl : Option Int) (e2 : G.Env) => G.Out.bind (G.evO C Gl D hi e2) fun (rh : Option Int) (e3 : G.Env) => G.ofO (Option.bind (G.lookT e3 ra) fun (x : G.T) => Option.map G.rvR (G.slR x rl rh)) e3 := @G.ev.eq_23
@[simp] theorem s_ev_24 : ∀ (C : Nat → List G.Iv → G.Res) (Gl : Nat → G.T) (D : Nat → Nat → List G.T) (x : G.Env) (m : G.Me0) (o : G.IE),
  G.ev C Gl D (G.IE.met0 m o) x =
    G.Out.bind (G.ev C Gl D o x) fun (ro : G.R) (e1 : G.Env) =>
      match ro with
      | G.R.val t => G.ofO (Option.map G.rvR (G.met0R m t)) e1
      | x => G.Out.stuck := @G.ev.eq_24
@[simp] theorem s_ev_25 : ∀ (C : Nat → List G.Iv → G.Res) (Gl : Nat → G.T) (D : Nat → Nat → List G.T) (x : G.Env) (m : G.Me1) (o a : G.IE),
  G.ev C Gl D (G.IE.met1 m o a) x =
    G.Out.bind (G.ev C Gl D o x) fun (ro : G.R) (e1 : G.Env) =>
      match ro with
      | G.R.val (G.T.str s) => G.Out.bind (G.ev C Gl D a e1) fun (ra : G.R) (e2 : G.Env) => G.ofO (Option.bind (G.lookT e2 ra) fun (t : G.T) => Option.map G.rvR (G.met1R m s t)) e2
      | x => G.Out.stuck := @G.ev.eq_25
@[simp] theorem s_ev_26 : ∀ (C : Nat → List G.Iv → G.Res) (Gl : Nat → G.T) (D : Nat → Nat → List G.T) (x : G.Env) (o k x_2 : G.IE),
  G.ev C Gl D (G.IE.dget2 o k x_2) x =
    G.Out.bind (G.ev C Gl D o x) fun (ro : G.R) (e1 : G.Env) =>
      match G.lookT e1 ro with
      | Option.some (G.T.dic kvs) =>
        G.Out.bind (G.ev C Gl D k e1) fun (rk : G.R) (e2 : G.Env) =>
          G.Out.bind (G.ev C Gl D x_2 e2) fun (rx : G.R) (e3 : G.Env) =>
            G.ofO
              (match G.lookT e3 ro, Option.bind (G.lookT e3 rk) G.keyT, G.esc e3 rx with
              | Option.some (G.T.dic kts), Option.some k, Option.some t => Option.some (G.R.val (Option.getD (G.valT kts k) t))
              | x, x_1, x_3 => Option.none)
              e3
      | x => G.Out.stuck := @G.ev.eq_26
@[simp] theorem s_ev_27 : ∀ (C : Nat → List G.Iv → G.Res) (Gl : Nat → G.T) (D : Nat → Nat → List G.T) (x : G.Env) (e : G.IE), G.ev C Gl D (G.IE.sortLF e) x = G.Out.bind (G.ev C Gl D e x) fun (r : G.R) (e1 : G.Env) => G.ofO (Option.bind (G.lookT e1 r) fun (t : G.T) => Option.bind (G.seqL t) fun (xs : List G.T) => Option.bind (G.rowsI xs) fun (bs : List (List Int)) => if List.length bs ≤ PySem.sizeLine then Option.some (G.R.new (G.Ow.lst (List.map G.rowT (G.sortLF bs)))) else Option.none) e1 := @G.ev.eq_27
@[simp] theorem s_ev_30 : ∀ (C : Nat → List G.Iv → G.Res) (Gl : Nat → G.T) (D : Nat → Nat → List G.T) (x : G.Env) (i : Nat) (e : G.IE), G.ev C Gl D (G.IE.lockd i e) x = if G.isD x i = Bool.true then G.unlockR i (G.ev C Gl D e (G.lockD x i)) else G.ev C Gl D e x := @G.ev.eq_30
@[simp] theorem s_ev_31 : ∀ (C : Nat → List G.Iv → G.Res) (Gl : Nat → G.T) (D : Nat → Nat → List G.T) (x : G.Env) (es : G.IEs), G.ev C Gl D (G.IE.disp es) x = G.Out.bind (G.evs C Gl D es x) fun (rs : List G.R) (e1 : G.Env) => G.ofO (Option.bind (G.escs e1 rs) fun (ts : List G.T) => Option.bind (G.pairUp ts) fun (kvs : List (L2.Key × G.T)) => if List.length kvs ≤ 15 then Option.some (G.R.new (G.Ow.dic (G.mergeT kvs))) else Option.none) e1 := @G.ev.eq_31
@[simp] theorem s_ev_32 : ∀ (C : Nat → List G.Iv → G.Res) (Gl : Nat → G.T) (D : Nat → Nat → List G.T) (x : G.Env) (es : G.IEs), G.ev C Gl D (G.IE.fstr es) x = G.Out.bind (G.noexc (G.evs C Gl D es x)) fun (rs : List G.R) (e1 : G.Env) => G.ofO (Option.bind (G.valsR rs) fun (ts : List G.T) => Option.map (fun (s : PySem.Str) => G.R.val (G.T.str s)) (G.joinF ts PySem.Str.empty)) e1 := @G.ev.eq_32
@[simp] theorem s_ev_33 : ∀ (C : Nat → List G.Iv → G.Res) (Gl : Nat → G.T) (D : Nat → Nat → List G.T) (x : G.Env) (e : G.IE) (f : PySem.Str),
  G.ev C Gl D (G.IE.efld e f) x =
    G.Out.bind (G.ev C Gl D e x) fun (r : G.R) (e1 : G.Env) =>
      match r, Gl G.eK with
      | G.R.val (G.T.adr a), G.T.tup [G.T.adr b, G.T.str s, G.T.dic kvs] => if a = b then G.ofO (Option.map G.R.val (G.valT kvs (Sum.inr f))) e1 else G.Out.stuck
      | x, x_1 => G.Out.stuck := @G.ev.eq_33
@[simp] theorem s_ev_34 : ∀ (C : Nat → List G.Iv → G.Res) (Gl : Nat → G.T) (D : Nat → Nat → List G.T) (x : G.Env) (e : G.IE) (yes : List PySem.Str),
  G.ev C Gl D (G.IE.eisin e yes) x =
    G.Out.bind (G.ev C Gl D e x) fun (r : G.R) (e1 : G.Env) =>
      match r, Gl G.eK with
      | G.R.val (G.T.adr a), G.T.tup [G.T.adr b, G.T.str nm, G.T.dic kvs] => if a = b then G.Out.ok (G.R.val (G.T.bl (List.any yes fun (y : PySem.Str) => Decidable.decide (y = nm)))) e1 else G.Out.stuck
      | x, x_1 => G.Out.stuck := @G.ev.eq_34
@[simp] theorem s_ev_35 : ∀ (C : Nat → List G.Iv → G.Res) (Gl : Nat → G.T) (D : Nat → Nat → List G.T) (x : G.Env) (f : Nat) (e : G.IE),
  G.ev C Gl D (G.IE.ecall f e) x =
    G.Out.bind (G.ev C Gl D e x) fun (r : G.R) (e1 : G.Env) =>
      match r, Gl G.eK with
      | G.R.val (G.T.adr a), G.T.tup [G.T.adr b, G.T.str nm, G.T.dic kvs] =>
        if a = b then
          match C f [G.Iv.val (G.T.tup [G.T.adr b, G.T.str nm, G.T.dic kvs])] with
          | G.Res.ok (G.Iv.val t) outs => G.Out.ok (G.R.val t) e1
          | x => G.Out.stuck
        else G.Out.stuck
      | x, x_1 => G.Out.stuck := @G.ev.eq_35
@[simp] theorem s_ev_36 : ∀ (C : Nat → List G.Iv → G.Res) (Gl : Nat → G.T) (D : Nat → Nat → List G.T) (x : G.Env) (e : G.IE) (f : PySem.Str) (ns : List PySem.Str),
  G.ev C Gl D (G.IE.fld e f ns) x =
    G.Out.bind (G.ev C Gl D e x) fun (r : G.R) (e1 : G.Env) =>
      match G.lookT e1 r with
      | Option.some (G.T.obj nm kvs) => if List.contains ns nm = Bool.true then G.ofO (Option.map G.R.val (G.valT kvs (Sum.inr f))) e1 else G.Out.stuck
      | x => G.Out.stuck := @G.ev.eq_36
@[simp] theorem s_ev_37 : ∀ (C : Nat → List G.Iv → G.Res) (Gl : Nat → G.T) (D : Nat → Nat → List G.T) (x : G.Env) (m : PySem.Str) (ms : List (PySem.Str × Nat)) (o : G.IE) (args : G.IEs),
  G.ev C Gl D (G.IE.meth m ms o args) x =
    G.Out.bind (G.ev C Gl D o x) fun (r : G.R) (e1 : G.Env) =>
      match G.methOf m ms (G.lookT e1 r) with
      | Option.some f => G.Out.bind (G.evs C Gl D args e1) fun (rs : List G.R) (e2 : G.Env) => G.callR C f (D f (G.IEs.len args + 1)) e2 (r :: rs)
      | Option.none => G.Out.stuck := @G.ev.eq_37
@[simp] theorem s_ev_38 : ∀ (C : Nat → List G.Iv → G.Res) (Gl : Nat → G.T) (D : Nat → Nat → List G.T) (x : G.Env) (c : PySem.Str) (f : Nat) (args : G.IEs), G.ev C Gl D (G.IE.make c f args) x = G.Out.bind (G.evs C Gl D args x) fun (rs : List G.R) (e1 : G.Env) => G.makeR C f (D f (G.IEs.len args + 1)) c e1 rs := @G.ev.eq_38
@[simp] theorem s_evs_1 : ∀ (C : Nat → List G.Iv → G.Res) (Gl : Nat → G.T) (D : Nat → Nat → List G.T) (x : G.Env), G.evs C Gl D G.IEs.nil x = G.Out.ok [] x := @G.evs.eq_1
@[simp] theorem s_evs_2 : ∀ (C : Nat → List G.Iv → G.Res) (Gl : Nat → G.T) (D : Nat → Nat → List G.T) (x : G.Env) (e : G.IE) (es : G.IEs), G.evs C Gl D (G.IEs.cons e es) x = G.Out.bind (G.ev C Gl D e x) fun (r : G.R) (e1 : G.Env) => G.Out.bind (G.evs C Gl D es e1) fun (rs : List G.R) (e2 : G.Env) => G.Out.ok (r :: rs) e2 := @G.evs.eq_2
@[simp] theorem s_evO_1 : ∀ (C : Nat → List G.Iv → G.Res) (Gl : Nat → G.T) (D : Nat → Nat → List G.T) (x : G.Env), G.evO C Gl D G.IO.none x = G.Out.ok Option.none x := @G.evO.eq_1
@[simp] theorem s_evO_2 : ∀ (C : Nat → List G.Iv → G.Res) (Gl : Nat → G.T) (D : Nat → Nat → List G.T) (x : G.Env) (e : G.IE),
  G.evO C Gl D (G.IO.some e) x =
    G.Out.bind (G.ev C Gl D e x) fun (r : G.R) (e1 : G.Env) =>
      match r with
      | G.R.val (G.T.int i) => G.Out.ok (Option.some i) e1
      | x => G.Out.stuck := @G.evO.eq_2
@[simp] theorem s_evC_1 : ∀ (C : Nat → List G.Iv → G.Res) (Gl : Nat → G.T) (D : Nat → Nat → List G.T) (x : G.Env), G.evC C Gl D G.IBO.none x = G.Out.ok Bool.true x := @G.evC.eq_1
@[simp] theorem s_evC_2 : ∀ (C : Nat → List G.Iv → G.Res) (Gl : Nat → G.T) (D : Nat → Nat → List G.T) (x : G.Env) (e : G.IB), G.evC C Gl D (G.IBO.some e) x = G.evT C Gl D e x := @G.evC.eq_2
@[simp] theorem s_evSrc_1 : ∀ (C : Nat → List G.Iv → G.Res) (Gl : Nat → G.T) (D : Nat → Nat → List G.T) (x : G.Env) (e : G.IE),
  G.evSrc C Gl D (G.Src.seq e) x =
    G.Out.bind (G.ev C Gl D e x) fun (r : G.R) (e1 : G.Env) =>
      match G.dicOf e1 r with
      | Option.some kts => G.Out.ok (G.keysT kts, Option.none) e1
      | Option.none => G.ofO (Option.bind (G.lookT e1 r) fun (t : G.T) => Option.map (fun (xs : List G.T) => (xs, G.lockOf e1 r)) (G.seqI t)) e1 := @G.evSrc.eq_1
@[simp] theorem s_evSrc_2 : ∀ (C : Nat → List G.Iv → G.Res) (Gl : Nat → G.T) (D : Nat → Nat → List G.T) (x : G.Env) (e : G.IE),
  G.evSrc C Gl D (G.Src.rng1 e) x =
    G.Out.bind (G.ev C Gl D e x) fun (r : G.R) (e1 : G.Env) =>
      match r with
      | G.R.val (G.T.int j) => if G.inRng j = Bool.true then G.Out.ok (G.rngT 0 (Int.toNat j), Option.none) e1 else G.Out.stuck
      | x => G.Out.stuck := @G.evSrc.eq_2
@[simp] theorem s_evSrc_3 : ∀ (C : Nat → List G.Iv → G.Res) (Gl : Nat → G.T) (D : Nat → Nat → List G.T) (x : G.Env) (a b : G.IE),
  G.evSrc C Gl D (G.Src.rng2 a b) x =
    G.Out.bind (G.ev C Gl D a x) fun (r : G.R) (e1 : G.Env) =>
      G.Out.bind (G.ev C Gl D b e1) fun (r2 : G.R) (e2 : G.Env) =>
        match r, r2 with
        | G.R.val (G.T.int i), G.R.val (G.T.int j) => if (G.inRng i && G.inRng j) = Bool.true then G.Out.ok (G.rngT i (Int.toNat (j - i)), Option.none) e2 else G.Out.stuck
        | x, x_1 => G.Out.stuck := @G.evSrc.eq_3
@[simp] theorem s_evSrc_4 : ∀ (C : Nat → List G.Iv → G.Res) (Gl : Nat → G.T) (D : Nat → Nat → List G.T) (x : G.Env) (a b : G.IE),
  G.evSrc C Gl D (G.Src.zip a b) x =
    G.Out.bind (G.ev C Gl D a x) fun (ra : G.R) (e1 : G.Env) =>
      G.Out.bind (G.ev C Gl D b e1) fun (rb : G.R) (e2 : G.Env) =>
        G.ofO
          (Option.bind (G.esc e2 ra) fun (x : G.T) =>
            Option.bind (G.esc e2 rb) fun (y : G.T) =>
              match x, y with
              | G.T.lst xs, G.T.lst ys => Option.some (G.zipT xs ys, Option.none)
              | G.T.rlst xs, G.T.lst ys => Option.some (G.zipT xs ys, Option.none)
              | G.T.tup xs, G.T.tup ys => Option.some (G.zipT xs ys, Option.none)
              | x, x_1 => Option.none)
          e2 := @G.evSrc.eq_4
@[simp] theorem s_evT_1 : ∀ (C : Nat → List G.Iv → G.Res) (Gl : Nat → G.T) (D : Nat → Nat → List G.T) (x : G.Env) (a : G.IB), G.evT C Gl D (G.IB.not a) x = G.Out.bind (G.evT C Gl D a x) fun (k : Bool) (e1 : G.Env) => G.Out.ok (!k) e1 := @G.evT.eq_1
@[simp] theorem s_evT_2 : ∀ (C : Nat → List G.Iv → G.Res) (Gl : Nat → G.T) (D : Nat → Nat → List G.T) (x : G.Env) (a b : G.IB), G.evT C Gl D (G.IB.and a b) x = G.Out.bind (G.evT C Gl D a x) fun (k : Bool) (e1 : G.Env) => if k = Bool.true then G.evT C Gl D b e1 else G.Out.ok Bool.false e1 := @G.evT.eq_2
@[simp] theorem s_evT_3 : ∀ (C : Nat → List G.Iv → G.Res) (Gl : Nat → G.T) (D : Nat → Nat → List G.T) (x : G.Env) (a b : G.IB), G.evT C Gl D (G.IB.or a b) x = G.Out.bind (G.evT C Gl D a x) fun (k : Bool) (e1 : G.Env) => if k = Bool.true then G.Out.ok Bool.true e1 else G.evT C Gl D b e1 := @G.evT.eq_3
@[simp] theorem s_evT_4 : ∀ (C : Nat → List G.Iv → G.Res) (Gl : Nat → G.T) (D : Nat → Nat → List G.T) (x : G.Env) (e : G.IE), G.evT C Gl D (G.IB.val e) x = G.Out.bind (G.ev C Gl D e x) fun (r : G.R) (e1 : G.Env) => G.ofO (Option.bind (G.lookT e1 r) G.truR) e1 := @G.evT.eq_4
@[simp] theorem s_xc_1 : ∀ (C : Nat → List G.Iv → G.Res) (Gl : Nat → G.T) (D : Nat → Nat → List G.T) (fx : Nat → Bool) (L : Nat) (x : G.Env) (i : Nat) (e : G.IE), G.xc C Gl D fx L (G.IS.asg i e) x = G.Out.bind (G.ev C Gl D e x) fun (r : G.R) (e1 : G.Env) => G.asgR fx i r e1 := @G.xc.eq_1
@[simp] theorem s_xc_2 : ∀ (C : Nat → List G.Iv → G.Res) (Gl : Nat → G.T) (D : Nat → Nat → List G.T) (fx : Nat → Bool) (L : Nat) (x : G.Env) (is : List Nat) (e : G.IE),
  G.xc C Gl D fx L (G.IS.asgT is e) x =
    G.Out.bind (G.ev C Gl D e x) fun (r : G.R) (e1 : G.Env) =>
      match Option.bind (G.esc e1 r) fun (t : G.T) => G.bindT fx (G.Tgt.tup is) t e1 with
      | Option.some e2 => G.Out.ok G.Sg.nxt e2
      | Option.none => G.Out.stuck := @G.xc.eq_2
@[simp] theorem s_xc_3 : ∀ (C : Nat → List G.Iv → G.Res) (Gl : Nat → G.T) (D : Nat → Nat → List G.T) (fx : Nat → Bool) (L : Nat) (x : G.Env) (i j : Nat) (a b : G.IE),
  G.xc C Gl D fx L (G.IS.par i j a b) x =
    G.Out.bind (G.ev C Gl D a x) fun (r : G.R) (e1 : G.Env) =>
      G.Out.bind (G.ev C Gl D b e1) fun (r2 : G.R) (e2 : G.Env) =>
        match Option.bind (G.escs e2 [r, r2]) fun (ts : List G.T) => G.bindAll fx [i, j] ts e2 with
        | Option.some e3 => G.Out.ok G.Sg.nxt e3
        | Option.none => G.Out.stuck := @G.xc.eq_3
@[simp] theorem s_xc_4 : ∀ (C : Nat → List G.Iv → G.Res) (Gl : Nat → G.T) (D : Nat → Nat → List G.T) (fx : Nat → Bool) (L : Nat) (x : G.Env) (c : Nat) (ix v : G.IE),
  G.xc C Gl D fx L (G.IS.setix c ix v) x =
    G.Out.bind (G.ev C Gl D v x) fun (rv : G.R) (e1 : G.Env) =>
      if G.isO e1 c = Bool.true then
        G.Out.bind (G.ev C Gl D ix e1) fun (ri : G.R) (e2 : G.Env) =>
          match G.esc e2 rv, G.lookT e2 ri with
          | Option.some tv, Option.some ti => G.setixR c ti tv e2
          | x, x_1 => G.Out.stuck
      else G.Out.stuck := @G.xc.eq_4
@[simp] theorem s_xc_5 : ∀ (C : Nat → List G.Iv → G.Res) (Gl : Nat → G.T) (D : Nat → Nat → List G.T) (fx : Nat → Bool) (L : Nat) (x : G.Env) (m : G.Mu) (c : Nat) (es : G.IEs),
  G.xc C Gl D fx L (G.IS.mut m c es) x =
    if G.isL x c = Bool.true then
      G.Out.bind (G.evs C Gl D es x) fun (rs : List G.R) (e1 : G.Env) =>
        match m with
        | G.Mu.extend =>
          match G.looks e1 rs with
          | Option.some ts => G.mutR m c ts e1
          | Option.none => G.Out.stuck
        | x =>
          match G.escs e1 rs with
          | Option.some ts => G.mutR m c ts e1
          | Option.none => G.Out.stuck
    else G.Out.stuck := @G.xc.eq_5
@[simp] theorem s_xc_6 : ∀ (C : Nat → List G.Iv → G.Res) (Gl : Nat → G.T) (D : Nat → Nat → List G.T) (fx : Nat → Bool) (L : Nat) (x : G.Env) (e : G.IE), G.xc C Gl D fx L (G.IS.expr e) x = G.Out.bind (G.ev C Gl D e x) fun (x : G.R) (e1 : G.Env) => G.Out.ok G.Sg.nxt e1 := @G.xc.eq_6
@[simp] theorem s_xc_7 : ∀ (C : Nat → List G.Iv → G.Res) (Gl : Nat → G.T) (D : Nat → Nat → List G.T) (fx : Nat → Bool) (L : Nat) (x : G.Env) (e : G.IE), G.xc C Gl D fx L (G.IS.ret e) x = G.Out.bind (G.ev C Gl D e x) fun (r : G.R) (e1 : G.Env) => G.retR fx r e1 := @G.xc.eq_7
@[simp] theorem s_xc_8 : ∀ (C : Nat → List G.Iv → G.Res) (Gl : Nat → G.T) (D : Nat → Nat → List G.T) (fx : Nat → Bool) (L : Nat) (x : G.Env), G.xc C Gl D fx L G.IS.retN x = G.Out.ok (G.Sg.ret (G.Iv.val G.T.non)) x := @G.xc.eq_8
@[simp] theorem s_xc_9 : ∀ (C : Nat → List G.Iv → G.Res) (Gl : Nat → G.T) (D : Nat → Nat → List G.T) (fx : Nat → Bool) (L : Nat) (x : G.Env), G.xc C Gl D fx L G.IS.pass x = G.Out.ok G.Sg.nxt x := @G.xc.eq_9
@[simp] theorem s_xc_10 : ∀ (C : Nat → List G.Iv → G.Res) (Gl : Nat → G.T) (D : Nat → Nat → List G.T) (fx : Nat → Bool) (L : Nat) (x : G.Env), G.xc C Gl D fx L G.IS.brk x = G.Out.ok G.Sg.brk x := @G.xc.eq_10
@[simp] theorem s_xc_11 : ∀ (C : Nat → List G.Iv → G.Res) (Gl : Nat → G.T) (D : Nat → Nat → List G.T) (fx : Nat → Bool) (L : Nat) (x : G.Env), G.xc C Gl D fx L G.IS.cont x = G.Out.ok G.Sg.cnt x := @G.xc.eq_11
@[simp] theorem s_xc_12 : ∀ (C : Nat → List G.Iv → G.Res) (Gl : Nat → G.T) (D : Nat → Nat → List G.T) (fx : Nat → Bool) (L : Nat) (x : G.Env) (c : G.IB) (a b : G.ISs), G.xc C Gl D fx L (G.IS.ite c a b) x = G.Out.bind (G.evT C Gl D c x) fun (k : Bool) (e1 : G.Env) => if k = Bool.true then G.xcs C Gl D fx L a e1 else G.xcs C Gl D fx L b e1 := @G.xc.eq_12
@[simp] theorem s_xc_15 : ∀ (C : Nat → List G.Iv → G.Res) (Gl : Nat → G.T) (D : Nat → Nat → List G.T) (fx : Nat → Bool) (L : Nat) (x : G.Env) (n : String) (msg : PySem.Str), G.xc C Gl D fx L (G.IS.raise n msg) x = G.Out.exc (G.Xv.blt n) x := @G.xc.eq_15
@[simp] theorem s_xc_16 : ∀ (C : Nat → List G.Iv → G.Res) (Gl : Nat → G.T) (D : Nat → Nat → List G.T) (fx : Nat → Bool) (L : Nat) (x : G.Env) (body : G.ISs) (n : String) (suite : G.ISs),
  G.xc C Gl D fx L (G.IS.try body n suite) x =
    match G.xcs C Gl D fx L body x with
    | G.Out.exc (G.Xv.blt m) e => if m = n then G.noexc (G.xcs C Gl D fx L suite e) else G.Out.stuck
    | G.Out.exc (G.Xv.usr nm fs) env => G.Out.stuck
    | o => o := @G.xc.eq_16
@[simp] theorem s_xc_17 : ∀ (C : Nat → List G.Iv → G.Res) (Gl : Nat → G.T) (D : Nat → Nat → List G.T) (fx : Nat → Bool) (L : Nat) (x : G.Env) (nm : PySem.Str) (flds : List PySem.Str) (msg : G.IE) (args : G.IEs),
  G.xc C Gl D fx L (G.IS.raiseX nm flds msg args) x =
    G.Out.bind (G.evs C Gl D args x) fun (rs : List G.R) (e1 : G.Env) =>
      match G.valsR rs with
      | Option.some ts => G.raiseR nm flds msg ts e1
      | Option.none => G.Out.stuck := @G.xc.eq_17
@[simp] theorem s_xc_18 : ∀ (C : Nat → List G.Iv → G.Res) (Gl : Nat → G.T) (D : Nat → Nat → List G.T) (fx : Nat → Bool) (L : Nat) (x : G.Env) (body : G.ISs) (yes no : List PySem.Str) (slot : Option Nat) (suite : G.SUs),
  G.xc C Gl D fx L (G.IS.tryX body yes no slot suite) x =
    match G.xcs C Gl D fx L body x with
    | G.Out.exc (G.Xv.usr nm fs) e => if (List.any yes fun (y : PySem.Str) => Decidable.decide (y = nm)) = Bool.true then if G.slotOk fx slot e = Bool.true then G.suiteR C Gl D fx nm fs suite slot e else G.Out.stuck else if (List.any no fun (y : PySem.Str) => Decidable.decide (y = nm)) = Bool.true then G.Out.exc (G.Xv.usr nm fs) e else G.Out.stuck
    | G.Out.exc (G.Xv.blt n) env => G.Out.stuck
    | o => o := @G.xc.eq_18
@[simp] theorem s_xc_19 : ∀ (C : Nat → List G.Iv → G.Res) (Gl : Nat → G.T) (D : Nat → Nat → List G.T) (fx : Nat → Bool) (L : Nat) (x : G.Env) (c : Nat) (f : PySem.Str) (ns : List PySem.Str) (e : G.IE),
  G.xc C Gl D fx L (G.IS.fset c f ns e) x =
    G.Out.bind (G.ev C Gl D e x) fun (r : G.R) (e1 : G.Env) =>
      match G.esc e1 r with
      | Option.some t => G.fsetR c f ns t e1
      | Option.none => G.Out.stuck := @G.xc.eq_19
@[simp] theorem s_xc_20 : ∀ (C : Nat → List G.Iv → G.Res) (Gl : Nat → G.T) (D : Nat → Nat → List G.T) (fx : Nat → Bool) (L : Nat) (x : G.Env) (s : G.SUs), G.xc C Gl D fx L (G.IS.su s) x = G.Out.stuck := @G.xc.eq_20
@[simp] theorem s_xcs_1 : ∀ (C : Nat → List G.Iv → G.Res) (Gl : Nat → G.T) (D : Nat → Nat → List G.T) (fx : Nat → Bool) (L : Nat) (x : G.Env), G.xcs C Gl D fx L G.ISs.nil x = G.Out.ok G.Sg.nxt x := @G.xcs.eq_1
@[simp] theorem s_xcs_2 : ∀ (C : Nat → List G.Iv → G.Res) (Gl : Nat → G.T) (D : Nat → Nat → List G.T) (fx : Nat → Bool) (L : Nat) (x : G.Env) (s : G.IS) (ss : G.ISs),
  G.xcs C Gl D fx L (G.ISs.cons s ss) x =
    G.Out.bind (G.xc C Gl D fx L s x) fun (g : G.Sg) (e1 : G.Env) =>
      match g with
      | G.Sg.nxt => G.xcs C Gl D fx L ss e1
      | g => G.Out.ok g e1 := @G.xcs.eq_2
@[simp] theorem s_lookT_1 : ∀ (env : G.Env) (r : G.R), G.lookT env r = Option.map G.toT (G.look env r) := @G.lookT.eq_1
@[simp] theorem s_look_1 : ∀ (env : G.Env) (t : G.T), G.look env (G.R.val t) = Option.some (G.Iv.val t) := @G.look.eq_1
@[simp] theorem s_look_2 : ∀ (env : G.Env) (o : G.Ow), G.look env (G.R.new o) = Option.some (G.Iv.own o) := @G.look.eq_2
@[simp] theorem s_look_3 : ∀ (env : G.Env) (i : Nat),
  G.look env (G.R.loan i) =
    match env[i]? with
    | Option.some x => x
    | Option.none => Option.none := @G.look.eq_3
@[simp] theorem s_looks_1 : ∀ (env : G.Env), G.looks env [] = Option.some [] := @G.looks.eq_1
@[simp] theorem s_looks_2 : ∀ (env : G.Env) (r : G.R) (rs : List G.R),
  G.looks env (r :: rs) =
    match G.lookT env r, G.looks env rs with
    | Option.some t, Option.some ts => Option.some (t :: ts)
    | x, x_1 => Option.none := @G.looks.eq_2
@[simp] theorem s_esc_1 : ∀ (env : G.Env) (t : G.T), G.esc env (G.R.val t) = Option.some t := @G.esc.eq_1
@[simp] theorem s_esc_2 : ∀ (env : G.Env) (o : G.Ow), G.esc env (G.R.new o) = Option.some (G.frz o) := @G.esc.eq_2
@[simp] theorem s_esc_3 : ∀ (env : G.Env) (i : Nat),
  G.esc env (G.R.loan i) =
    match env[i]? with
    | Option.some (Option.some (G.Iv.val t)) => Option.some t
    | x => Option.none := @G.esc.eq_3
@[simp] theorem s_escs_1 : ∀ (env : G.Env), G.escs env [] = Option.some [] := @G.escs.eq_1
@[simp] theorem s_escs_2 : ∀ (env : G.Env) (r : G.R) (rs : List G.R),
  G.escs env (r :: rs) =
    match G.esc env r, G.escs env rs with
    | Option.some t, Option.some ts => Option.some (t :: ts)
    | x, x_1 => Option.none := @G.escs.eq_2
@[simp] theorem s_toT_1 : ∀ (t : G.T), G.toT (G.Iv.val t) = t := @G.toT.eq_1
@[simp] theorem s_toT_2 : ∀ (o : G.Ow), G.toT (G.Iv.own o) = G.frz o := @G.toT.eq_2
@[simp] theorem s_toT_3 : ∀ (o : G.Ow), G.toT (G.Iv.lck o) = G.frz o := @G.toT.eq_3
@[simp] theorem s_frz_1 : ∀ (xs : List G.T), G.frz (G.Ow.lst xs) = G.T.lst xs := @G.frz.eq_1
@[simp] theorem s_frz_2 : ∀ (kvs : List (L2.Key × G.T)), G.frz (G.Ow.dic kvs) = G.T.dic kvs := @G.frz.eq_2
@[simp] theorem s_frz_3 : ∀ (nm : PySem.Str) (kvs : List (L2.Key × G.T)), G.frz (G.Ow.obj nm kvs) = G.T.obj nm kvs := @G.frz.eq_3
@[simp] theorem s_asgR_1 : ∀ (fx : Nat → Bool) (i : Nat) (env : G.Env) (t : G.T), G.asgR fx i (G.R.val t) env = if i < List.length env ∧ fx i = Bool.false then G.Out.ok G.Sg.nxt (List.set env i (Option.some (G.Iv.val t))) else G.Out.stuck := @G.asgR.eq_1
@[simp] theorem s_asgR_2 : ∀ (fx : Nat → Bool) (i : Nat) (env : G.Env) (o : G.Ow), G.asgR fx i (G.R.new o) env = if i < List.length env ∧ fx i = Bool.false then G.Out.ok G.Sg.nxt (List.set env i (Option.some (G.Iv.own o))) else G.Out.stuck := @G.asgR.eq_2
@[simp] theorem s_asgR_3 : ∀ (fx : Nat → Bool) (i : Nat) (env : G.Env) (i_1 : Nat), G.asgR fx i (G.R.loan i_1) env = if i < List.length env ∧ fx i = Bool.false then G.Out.stuck else G.Out.stuck := @G.asgR.eq_3
@[simp] theorem s_retR_1 : ∀ (fx : Nat → Bool) (env : G.Env) (t : G.T), G.retR fx (G.R.val t) env = G.Out.ok (G.Sg.ret (G.Iv.val t)) env := @G.retR.eq_1
@[simp] theorem s_retR_2 : ∀ (fx : Nat → Bool) (env : G.Env) (o : G.Ow), G.retR fx (G.R.new o) env = G.Out.ok (G.Sg.ret (G.Iv.own o)) env := @G.retR.eq_2
@[simp] theorem s_retR_3 : ∀ (fx : Nat → Bool) (env : G.Env) (i : Nat),
  G.retR fx (G.R.loan i) env =
    match env[i]? with
    | Option.some (Option.some (G.Iv.val t)) => G.Out.ok (G.Sg.ret (G.Iv.val t)) env
    | Option.some (Option.some (G.Iv.own o)) => if fx i = Bool.true then G.Out.stuck else G.Out.ok (G.Sg.ret (G.Iv.own o)) (List.set env i Option.none)
    | x => G.Out.stuck := @G.retR.eq_3
@[simp] theorem s_setixR_1 : ∀ (c : Nat) (ix v : G.T) (env : G.Env),
  G.setixR c ix v env =
    match env[c]? with
    | Option.some (Option.some (G.Iv.own (G.Ow.lst xs))) =>
      match ix with
      | G.T.int k =>
        match L2.ixN (List.length xs) k with
        | Option.some j => G.Out.ok G.Sg.nxt (List.set env c (Option.some (G.Iv.own (G.Ow.lst (List.set xs j v)))))
        | Option.none => G.Out.stuck
      | x => G.Out.stuck
    | Option.some (Option.some (G.Iv.own (G.Ow.dic kvs))) =>
      match G.keyT ix with
      | Option.some k => if List.length kvs < PySem.sizeLine then G.Out.ok G.Sg.nxt (List.set env c (Option.some (G.Iv.own (G.Ow.dic (G.putT kvs k v))))) else G.Out.stuck
      | Option.none => G.Out.stuck
    | x => G.Out.stuck := @G.setixR.eq_1
@[simp] theorem s_mutR_1 : ∀ (m : G.Mu) (c : Nat) (ts : List G.T) (env : G.Env),
  G.mutR m c ts env =
    match env[c]? with
    | Option.some (Option.some (G.Iv.own (G.Ow.lst xs))) =>
      match m, ts with
      | G.Mu.append, [t] => if List.length xs < PySem.sizeLine then G.Out.ok G.Sg.nxt (List.set env c (Option.some (G.Iv.own (G.Ow.lst (xs ++ [t]))))) else G.Out.stuck
      | G.Mu.insert, [G.T.int i, t] => if List.length xs < PySem.sizeLine ∧ 0 ≤ i ∧ i < 2 ^ 63 then G.Out.ok G.Sg.nxt (List.set env c (Option.some (G.Iv.own (G.Ow.lst (List.take (Int.toNat i) xs ++ [t] ++ List.drop (Int.toNat i) xs))))) else G.Out.stuck
      | G.Mu.extend, [G.T.lst ys] => if List.length xs + List.length ys ≤ PySem.sizeLine then G.Out.ok G.Sg.nxt (List.set env c (Option.some (G.Iv.own (G.Ow.lst (xs ++ ys))))) else G.Out.stuck
      | G.Mu.pop, [] =>
        match xs[List.length xs - 1]? with
        | Option.some val => G.Out.ok G.Sg.nxt (List.set env c (Option.some (G.Iv.own (G.Ow.lst (List.dropLast xs)))))
        | Option.none => G.Out.stuck
      | x, x_1 => G.Out.stuck
    | x => G.Out.stuck := @G.mutR.eq_1
@[simp] theorem s_isO_1 : ∀ (env : G.Env) (c : Nat),
  G.isO env c =
    match env[c]? with
    | Option.some (Option.some (G.Iv.own o)) => Bool.true
    | x => Bool.false := @G.isO.eq_1
@[simp] theorem s_isL_1 : ∀ (env : G.Env) (c : Nat),
  G.isL env c =
    match env[c]? with
    | Option.some (Option.some (G.Iv.own (G.Ow.lst xs))) => Bool.true
    | x => Bool.false := @G.isL.eq_1
@[simp] theorem s_argsOf_1 : ∀ (env : G.Env), G.argsOf env [] = Option.some [] := @G.argsOf.eq_1
@[simp] theorem s_argsOf_2 : ∀ (env : G.Env) (r : G.R) (rs : List G.R),
  G.argsOf env (r :: rs) =
    match G.look env r, G.argsOf env rs with
    | Option.some t, Option.some ts => Option.some (t :: ts)
    | x, x_1 => Option.none := @G.argsOf.eq_2
@[simp] theorem s_lent_1 : ∀ (env : G.Env), G.lent env [] = [] := @G.lent.eq_1
@[simp] theorem s_lent_2 : ∀ (env : G.Env) (i : Nat) (rs : List G.R),
  G.lent env (G.R.loan i :: rs) =
    match env[i]? with
    | Option.some (Option.some (G.Iv.val t)) => G.lent env rs
    | x => i :: G.lent env rs := @G.lent.eq_2
@[simp] theorem s_lent_3 : ∀ (env : G.Env) (head : G.R) (rs : List G.R), (∀ (i : Nat), head = G.R.loan i → False) → G.lent env (head :: rs) = G.lent env rs := @G.lent.eq_3
@[simp] theorem s_back_1 : ∀ (env : G.Env) (i : Nat) (rs : List G.R) (o : G.Iv) (os : List G.Iv),
  G.back env (G.R.loan i :: rs) (o :: os) =
    G.back
      (match env[i]? with
      | Option.some (Option.some (G.Iv.own o_1)) => List.set env i (Option.some o)
      | x => env)
      rs os := @G.back.eq_1
@[simp] theorem s_back_2 : ∀ (env : G.Env) (head : G.R) (rs : List G.R) (head_1 : G.Iv) (os : List G.Iv), (∀ (i : Nat), head = G.R.loan i → False) → G.back env (head :: rs) (head_1 :: os) = G.back env rs os := @G.back.eq_2
@[simp] theorem s_back_3 : ∀ (env : G.Env) (x : List G.R) (x_1 : List G.Iv), (∀ (i : Nat) (rs : List G.R) (o : G.Iv) (os : List G.Iv), x = G.R.loan i :: rs → x_1 = o :: os → False) → (∀ (head : G.R) (rs : List G.R) (head_1 : G.Iv) (os : List G.Iv), x = head :: rs → x_1 = head_1 :: os → False) → G.back env x x_1 = env := @G.back.eq_3
@[simp] theorem s_ivR_1 : ∀ (t : G.T), G.ivR (G.Iv.val t) = Option.some (G.R.val t) := @G.ivR.eq_1
@[simp] theorem s_ivR_2 : ∀ (o : G.Ow), G.ivR (G.Iv.own o) = Option.some (G.R.new o) := @G.ivR.eq_2
@[simp] theorem s_ivR_3 : ∀ (o : G.Ow), G.ivR (G.Iv.lck o) = Option.none := @G.ivR.eq_3
@[simp] theorem s_callR_1 : ∀ (C : Nat → List G.Iv → G.Res) (f : Nat) (dfl : List G.T) (env : G.Env) (rs : List G.R),
  G.callR C f dfl env rs =
    match G.argsOf env rs with
    | Option.none => G.Out.stuck
    | Option.some ivs =>
      if List.Nodup (G.lent env rs) then
        match C f (ivs ++ List.map G.Iv.val dfl) with
        | G.Res.ok r outs =>
          match G.ivR r with
          | Option.some r => G.Out.ok r (G.back env rs outs)
          | Option.none => G.Out.stuck
        | G.Res.exc x outs => G.Out.exc x (G.back env rs outs)
        | G.Res.stuck => G.Out.stuck
      else G.Out.stuck := @G.callR.eq_1
@[simp] theorem s_binR_1 : ∀ (x y : G.T), G.binR PySem.Operator.Add x y = G.addR x y := @G.binR.eq_1
@[simp] theorem s_binR_2 : ∀ (i j : Int), G.binR PySem.Operator.Sub (G.T.int i) (G.T.int j) = Option.some (G.Rv.val (G.T.int (i - j))) := @G.binR.eq_2
@[simp] theorem s_binR_3 : ∀ (i j : Int), G.binR PySem.Operator.Mult (G.T.int i) (G.T.int j) = if G.mulOk i j = Bool.true then Option.some (G.Rv.val (G.T.int (i * j))) else Option.none := @G.binR.eq_3
@[simp] theorem s_binR_4 : ∀ (i : PySem.Str) (n : Int), G.binR PySem.Operator.Mult (G.T.str i) (G.T.int n) = if n < 1000 ∧ -1000 < n ∧ PySem.Str.length i ≤ 1000 then Option.some (G.Rv.val (G.T.str (G.repS i n))) else Option.none := @G.binR.eq_4
@[simp] theorem s_binR_5 : ∀ (i j : Int), G.binR PySem.Operator.FloorDiv (G.T.int i) (G.T.int j) = if 0 < j ∧ Nat.log2 (Int.natAbs j) < 9000 then Option.some (G.Rv.val (G.T.int (i / j))) else if j ≠ 0 ∧ Int.natAbs j < 1073741824 then Option.some (G.Rv.val (G.T.int (Int.fdiv i j))) else Option.none := @G.binR.eq_5
@[simp] theorem s_binR_6 : ∀ (i j : Int), G.binR PySem.Operator.Mod (G.T.int i) (G.T.int j) = if 0 < j then Option.some (G.Rv.val (G.T.int (i % j))) else if j ≠ 0 then Option.some (G.Rv.val (G.T.int (Int.fmod i j))) else Option.none := @G.binR.eq_6
@[simp] theorem s_binR_7 : ∀ (i j : Int), G.binR PySem.Operator.Pow (G.T.int i) (G.T.int j) = if 0 ≤ j ∧ j ≤ 1000000 ∧ Int.natAbs i < 2 ^ 64 then Option.some (G.Rv.val (G.T.int (i ^ Int.toNat j))) else Option.none := @G.binR.eq_7
@[simp] theorem s_binR_8 : ∀ (op : PySem.Operator) (x y : G.T), (op = PySem.Operator.Add → False) → (∀ (i j : Int), op = PySem.Operator.Sub → x = G.T.int i → y = G.T.int j → False) → (∀ (i j : Int), op = PySem.Operator.Mult → x = G.T.int i → y = G.T.int j → False) → (∀ (i : PySem.Str) (n : Int), op = PySem.Operator.Mult → x = G.T.str i → y = G.T.int n → False) → (∀ (i j : Int), op = PySem.Operator.FloorDiv → x = G.T.int i → y = G.T.int j → False) → (∀ (i j : Int), op = PySem.Operator.Mod → x = G.T.int i → y = G.T.int j → False) → (∀ (i j : Int), op = PySem.Operator.Pow → x = G.T.int i → y = G.T.int j → False) → G.binR op x y = Option.none := @G.binR.eq_8
@[simp] theorem s_addR_1 : ∀ (i j : Int), G.addR (G.T.int i) (G.T.int j) = Option.some (G.Rv.val (G.T.int (i + j))) := @G.addR.eq_1
@[simp] theorem s_addR_2 : ∀ (i j : PySem.Str), G.addR (G.T.str i) (G.T.str j) = if PySem.Str.length i + PySem.Str.length j ≤ PySem.sizeLine then Option.some (G.Rv.val (G.T.str (i ++ j))) else Option.none := @G.addR.eq_2
@[simp] theorem s_addR_3 : ∀ (a b : List G.T), G.addR (G.T.tup a) (G.T.tup b) = if List.length a + List.length b ≤ PySem.sizeLine then Option.some (G.Rv.tup (a ++ b)) else Option.none := @G.addR.eq_3
@[simp] theorem s_addR_4 : ∀ (a b : List G.T), G.addR (G.T.lst a) (G.T.lst b) = if List.length a + List.length b ≤ PySem.sizeLine then Option.some (G.Rv.lst (a ++ b)) else Option.none := @G.addR.eq_4
@[simp] theorem s_addR_5 : ∀ (x y : G.T), (∀ (i j : Int), x = G.T.int i → y = G.T.int j → False) → (∀ (i j : PySem.Str), x = G.T.str i → y = G.T.str j → False) → (∀ (a b : List G.T), x = G.T.tup a → y = G.T.tup b → False) → (∀ (a b : List G.T), x = G.T.lst a → y = G.T.lst b → False) → G.addR x y = Option.none := @G.addR.eq_5
@[simp] theorem s_cmpR_1 : ∀ (x y : G.T), G.cmpR PySem.CmpOp.Eq x y = G.eqR x y := @G.cmpR.eq_1
@[simp] theorem s_cmpR_2 : ∀ (x y : G.T), G.cmpR PySem.CmpOp.NotEq x y = Option.map Bool.not (G.eqR x y) := @G.cmpR.eq_2
@[simp] theorem s_cmpR_3 : ∀ (x y : G.T), G.cmpR PySem.CmpOp.In x y = G.inR x y := @G.cmpR.eq_3
@[simp] theorem s_cmpR_4 : ∀ (x y : G.T), G.cmpR PySem.CmpOp.NotIn x y = Option.map Bool.not (G.inR x y) := @G.cmpR.eq_4
@[simp] theorem s_cmpR_5 : G.cmpR PySem.CmpOp.Is G.T.non G.T.non = Option.some Bool.true := @G.cmpR.eq_5
@[simp] theorem s_cmpR_6 : ∀ (x : G.T), (x = G.T.non → False) → G.cmpR PySem.CmpOp.Is x G.T.non = Option.some Bool.false := @G.cmpR.eq_6
@[simp] theorem s_cmpR_7 : ∀ (x y : G.T), (y = G.T.non → False) → G.cmpR PySem.CmpOp.Is x y = Option.none := @G.cmpR.eq_7
@[simp] theorem s_cmpR_8 : G.cmpR PySem.CmpOp.IsNot G.T.non G.T.non = Option.some Bool.false := @G.cmpR.eq_8
@[simp] theorem s_cmpR_9 : ∀ (x : G.T), (x = G.T.non → False) → G.cmpR PySem.CmpOp.IsNot x G.T.non = Option.some Bool.true := @G.cmpR.eq_9
@[simp] theorem s_cmpR_10 : ∀ (x y : G.T), (y = G.T.non → False) → G.cmpR PySem.CmpOp.IsNot x y = Option.none := @G.cmpR.eq_10
@[simp] theorem s_cmpR_11 : ∀ (op : PySem.CmpOp) (x y : G.T), (op = PySem.CmpOp.Eq → False) → (op = PySem.CmpOp.NotEq → False) → (op = PySem.CmpOp.In → False) → (op = PySem.CmpOp.NotIn → False) → (op = PySem.CmpOp.Is → False) → (op = PySem.CmpOp.IsNot → False) → G.cmpR op x y = G.ordR op x y := @G.cmpR.eq_11
@[simp] theorem s_ordR_1 : ∀ (i j : Int), G.ordR PySem.CmpOp.Lt (G.T.int i) (G.T.int j) = Option.some (Decidable.decide (i < j)) := @G.ordR.eq_1
@[simp] theorem s_ordR_2 : ∀ (i j : Int), G.ordR PySem.CmpOp.LtE (G.T.int i) (G.T.int j) = Option.some (Decidable.decide (i ≤ j)) := @G.ordR.eq_2
@[simp] theorem s_ordR_3 : ∀ (i j : Int), G.ordR PySem.CmpOp.Gt (G.T.int i) (G.T.int j) = Option.some (Decidable.decide (j < i)) := @G.ordR.eq_3
@[simp] theorem s_ordR_4 : ∀ (i j : Int), G.ordR PySem.CmpOp.GtE (G.T.int i) (G.T.int j) = Option.some (Decidable.decide (j ≤ i)) := @G.ordR.eq_4
@[simp] theorem s_ordR_5 : ∀ (i j : PySem.Str), G.ordR PySem.CmpOp.Lt (G.T.str i) (G.T.str j) = Option.some (Decidable.decide (Array.toList (PySem.Str.cps i) < Array.toList (PySem.Str.cps j))) := @G.ordR.eq_5
@[simp] theorem s_ordR_6 : ∀ (i j : PySem.Str), G.ordR PySem.CmpOp.LtE (G.T.str i) (G.T.str j) = Option.some !Decidable.decide (Array.toList (PySem.Str.cps j) < Array.toList (PySem.Str.cps i)) := @G.ordR.eq_6
@[simp] theorem s_ordR_7 : ∀ (i j : PySem.Str), G.ordR PySem.CmpOp.Gt (G.T.str i) (G.T.str j) = Option.some (Decidable.decide (Array.toList (PySem.Str.cps j) < Array.toList (PySem.Str.cps i))) := @G.ordR.eq_7
@[simp] theorem s_ordR_8 : ∀ (i j : PySem.Str), G.ordR PySem.CmpOp.GtE (G.T.str i) (G.T.str j) = Option.some !Decidable.decide (Array.toList (PySem.Str.cps i) < Array.toList (PySem.Str.cps j)) := @G.ordR.eq_8
@[simp] theorem s_ordR_9 : ∀ (op : PySem.CmpOp) (x y : G.T), (∀ (i j : Int), op = PySem.CmpOp.Lt → x = G.T.int i → y = G.T.int j → False) → (∀ (i j : Int), op = PySem.CmpOp.LtE → x = G.T.int i → y = G.T.int j → False) → (∀ (i j : Int), op = PySem.CmpOp.Gt → x = G.T.int i → y = G.T.int j → False) → (∀ (i j : Int), op = PySem.CmpOp.GtE → x = G.T.int i → y = G.T.int j → False) → (∀ (i j : PySem.Str), op = PySem.CmpOp.Lt → x = G.T.str i → y = G.T.str j → False) → (∀ (i j : PySem.Str), op = PySem.CmpOp.LtE → x = G.T.str i → y = G.T.str j → False) → (∀ (i j : PySem.Str), op = PySem.CmpOp.Gt → x = G.T.str i → y = G.T.str j → False) → (∀ (i j : PySem.Str), op = PySem.CmpOp.GtE → x = G.T.str i → y = G.T.str j → False) → G.ordR op x y = Option.none := @G.ordR.eq_9
@[simp] theorem s_ixR_1 : ∀ (xs : List G.T) (i : Int), G.ixR (G.T.lst xs) (G.T.int i) = L2.atI xs i := @G.ixR.eq_1
@[simp] theorem s_ixR_2 : ∀ (xs : List G.T) (i : Int), G.ixR (G.T.rlst xs) (G.T.int i) = L2.atI xs i := @G.ixR.eq_2
@[simp] theorem s_ixR_3 : ∀ (xs : List G.T) (i : Int), G.ixR (G.T.tup xs) (G.T.int i) = L2.atI xs i := @G.ixR.eq_3
@[simp] theorem s_ixR_4 : ∀ (z : PySem.Str) (i : Int), G.ixR (G.T.str z) (G.T.int i) = if PySem.Str.length z ≤ PySem.sizeLine then Option.map (fun (c : Nat) => G.T.str { cps := #[c] }) (L2.atI (Array.toList (PySem.Str.cps z)) i) else Option.none := @G.ixR.eq_4
@[simp] theorem s_ixR_5 : ∀ (y : G.T) (kts : List (L2.Key × G.T)),
  G.ixR (G.T.dic kts) y =
    match G.keyT y with
    | Option.some k => G.valT kts k
    | Option.none => Option.none := @G.ixR.eq_5
@[simp] theorem s_ixR_6 : ∀ (x y : G.T), (∀ (kts : List (L2.Key × G.T)), x = G.T.dic kts → False) → (∀ (xs : List G.T) (i : Int), x = G.T.lst xs → y = G.T.int i → False) → (∀ (xs : List G.T) (i : Int), x = G.T.rlst xs → y = G.T.int i → False) → (∀ (xs : List G.T) (i : Int), x = G.T.tup xs → y = G.T.int i → False) → (∀ (z : PySem.Str) (i : Int), x = G.T.str z → y = G.T.int i → False) → G.ixR x y = Option.none := @G.ixR.eq_6
@[simp] theorem s_truR_1 : G.truR G.T.non = Option.some Bool.false := @G.truR.eq_1
@[simp] theorem s_truR_2 : ∀ (b : Bool), G.truR (G.T.bl b) = Option.some b := @G.truR.eq_2
@[simp] theorem s_truR_3 : ∀ (i : Int), G.truR (G.T.int i) = Option.some (i != 0) := @G.truR.eq_3
@[simp] theorem s_truR_5 : ∀ (xs : List G.T), G.truR (G.T.lst xs) = Option.some !List.isEmpty xs := @G.truR.eq_5
@[simp] theorem s_truR_6 : ∀ (xs : List G.T), G.truR (G.T.rlst xs) = Option.some !List.isEmpty xs := @G.truR.eq_6
@[simp] theorem s_truR_7 : ∀ (xs : List G.T), G.truR (G.T.tup xs) = Option.some !List.isEmpty xs := @G.truR.eq_7
@[simp] theorem s_truR_8 : ∀ (kvs : List (L2.Key × G.T)), G.truR (G.T.dic kvs) = Option.none := @G.truR.eq_8
@[simp] theorem s_truR_9 : ∀ (a : PySem.Addr), G.truR (G.T.adr a) = Option.none := @G.truR.eq_9
@[simp] theorem s_truR_10 : ∀ (nm : PySem.Str) (kvs : List (L2.Key × G.T)), G.truR (G.T.obj nm kvs) = Option.none := @G.truR.eq_10
@[simp] theorem s_lenR_1 : ∀ (y : PySem.Str), G.lenR (G.T.str y) = if PySem.Str.length y ≤ PySem.sizeLine then Option.some ↑(PySem.Str.length y) else Option.none := @G.lenR.eq_1
@[simp] theorem s_lenR_2 : ∀ (xs : List G.T), G.lenR (G.T.lst xs) = Option.some ↑(List.length xs) := @G.lenR.eq_2
@[simp] theorem s_lenR_3 : ∀ (xs : List G.T), G.lenR (G.T.rlst xs) = Option.some ↑(List.length xs) := @G.lenR.eq_3
@[simp] theorem s_lenR_4 : ∀ (xs : List G.T), G.lenR (G.T.tup xs) = Option.some ↑(List.length xs) := @G.lenR.eq_4
@[simp] theorem s_lenR_5 : ∀ (x : G.T), (∀ (y : PySem.Str), x = G.T.str y → False) → (∀ (xs : List G.T), x = G.T.lst xs → False) → (∀ (xs : List G.T), x = G.T.rlst xs → False) → (∀ (xs : List G.T), x = G.T.tup xs → False) → G.lenR x = Option.none := @G.lenR.eq_5
@[simp] theorem s_rvR_1 : ∀ (t : G.T), G.rvR (G.Rv.val t) = G.R.val t := @G.rvR.eq_1
@[simp] theorem s_rvR_2 : ∀ (xs : List G.T), G.rvR (G.Rv.lst xs) = G.R.new (G.Ow.lst xs) := @G.rvR.eq_2
@[simp] theorem s_rvR_3 : ∀ (xs : List G.T), G.rvR (G.Rv.tup xs) = G.R.val (G.T.tup xs) := @G.rvR.eq_3
@[simp] theorem s_biR_1 : ∀ (t : G.T), G.biR G.BI.len [t] = Option.map (fun (n : Int) => G.Rv.val (G.T.int n)) (G.lenR t) := @G.biR.eq_1
@[simp] theorem s_biR_2 : ∀ (i : Int), G.biR G.BI.int [G.T.int i] = Option.some (G.Rv.val (G.T.int i)) := @G.biR.eq_2
@[simp] theorem s_biR_3 : ∀ (b_2 : Bool), G.biR G.BI.int [G.T.bl b_2] = Option.some (G.Rv.val (G.T.int (if b_2 = Bool.true then 1 else 0))) := @G.biR.eq_3
@[simp] theorem s_biR_4 : ∀ (s : PySem.Str), G.biR G.BI.int [G.T.str s] = if PySem.Str.length s ≤ 640 then Option.map (fun (n : Int) => G.Rv.val (G.T.int n)) (PySem.intText? s) else Option.none := @G.biR.eq_4
@[simp] theorem s_biR_5 : ∀ (i : Int), G.biR G.BI.bool [G.T.int i] = Option.some (G.Rv.val (G.T.bl (i != 0))) := @G.biR.eq_5
@[simp] theorem s_biR_6 : ∀ (b_2 : Bool), G.biR G.BI.bool [G.T.bl b_2] = Option.some (G.Rv.val (G.T.bl b_2)) := @G.biR.eq_6
@[simp] theorem s_biR_7 : ∀ (i : Int), G.biR G.BI.abs [G.T.int i] = Option.some (G.Rv.val (G.T.int (if i < 0 then -i else i))) := @G.biR.eq_7
@[simp] theorem s_biR_8 : ∀ (i : Int), G.biR G.BI.str [G.T.int i] = if Nat.log2 (Int.natAbs i) < 1920 then Option.some (G.Rv.val (G.T.str (PySem.Str.ofString (ToString.toString i)))) else Option.none := @G.biR.eq_8
@[simp] theorem s_biR_9 : ∀ (i j : Int), G.biR G.BI.max2 [G.T.int i, G.T.int j] = Option.some (G.Rv.val (G.T.int (if j > i then j else i))) := @G.biR.eq_9
@[simp] theorem s_biR_10 : ∀ (i j : Int), G.biR G.BI.min2 [G.T.int i, G.T.int j] = Option.some (G.Rv.val (G.T.int (if j < i then j else i))) := @G.biR.eq_10
@[simp] theorem s_biR_11 : ∀ (s : PySem.Str), G.biR G.BI.list [G.T.str s] = if PySem.Str.length s ≤ 100000 then Option.some (G.Rv.lst (List.map (fun (c : Nat) => G.T.str { cps := #[c] }) (Array.toList (PySem.Str.cps s)))) else Option.none := @G.biR.eq_11
@[simp] theorem s_biR_12 : ∀ (t : G.T), (∀ (s : PySem.Str), t = G.T.str s → False) → G.biR G.BI.list [t] = Option.map G.Rv.lst (G.seqA t) := @G.biR.eq_12
@[simp] theorem s_biR_13 : ∀ (xs : List G.T), G.biR G.BI.tuple [G.T.tup xs] = Option.some (G.Rv.val (G.T.tup xs)) := @G.biR.eq_13
@[simp] theorem s_biR_14 : ∀ (t : G.T), (∀ (xs : List G.T), t = G.T.tup xs → False) → G.biR G.BI.tuple [t] = Option.map G.Rv.tup (G.seqL t) := @G.biR.eq_14
@[simp] theorem s_biR_15 : ∀ (t : G.T), G.biR G.BI.all [t] = Option.map (fun (bs : List Bool) => G.Rv.val (G.T.bl (List.all bs id))) (Option.bind (G.seqL t) G.blsT) := @G.biR.eq_15
@[simp] theorem s_biR_16 : ∀ (t : G.T), G.biR G.BI.sum [t] = Option.map (fun (bs : List Int) => G.Rv.val (G.T.int (List.sum bs))) (Option.bind (G.seqL t) G.intsT) := @G.biR.eq_16
@[simp] theorem s_biR_17 : ∀ (i j : Int), G.biR G.BI.gcd [G.T.int i, G.T.int j] = Option.some (G.Rv.val (G.T.int ↑(Nat.gcd (Int.natAbs i) (Int.natAbs j)))) := @G.biR.eq_17
@[simp] theorem s_biR_18 : ∀ (t : G.T), G.biR G.BI.sortedS [t] = Option.bind (Option.bind (G.seqL t) G.strsT) fun (ss : List PySem.Str) => if List.length ss < 64 then Option.some (G.Rv.lst (List.map G.T.str (G.sortS ss))) else Option.none := @G.biR.eq_18
@[simp] theorem s_biR_19 : ∀ (t : G.T), G.biR G.BI.sortedI [t] = Option.bind (Option.bind (G.seqL t) G.intsT) fun (ss : List Int) => if List.length ss < 64 then Option.some (G.Rv.lst (List.map G.T.int (G.sortI ss))) else Option.none := @G.biR.eq_19
@[simp] theorem s_biR_20 : ∀ (t : G.T),
  G.biR G.BI.sorted [t] =
    match Option.bind (G.seqL t) G.strsT with
    | Option.some ss => if List.length ss < 64 then Option.some (G.Rv.lst (List.map G.T.str (G.sortS ss))) else Option.none
    | Option.none => Option.bind (Option.bind (G.seqL t) G.intsT) fun (ss : List Int) => if List.length ss < 64 then Option.some (G.Rv.lst (List.map G.T.int (G.sortI ss))) else Option.none := @G.biR.eq_20
@[simp] theorem s_biR_21 : ∀ (t : G.T), G.biR G.BI.repr [t] = Option.map (fun (s : PySem.Str) => G.Rv.val (G.T.str s)) (G.reprT t) := @G.biR.eq_21
@[simp] theorem s_biR_22 : ∀ (b : G.BI) (ts : List G.T), (∀ (t : G.T), b = G.BI.len → ts = [t] → False) → (∀ (i : Int), b = G.BI.int → ts = [G.T.int i] → False) → (∀ (b_1 : Bool), b = G.BI.int → ts = [G.T.bl b_1] → False) → (∀ (s : PySem.Str), b = G.BI.int → ts = [G.T.str s] → False) → (∀ (i : Int), b = G.BI.bool → ts = [G.T.int i] → False) → (∀ (b_1 : Bool), b = G.BI.bool → ts = [G.T.bl b_1] → False) → (∀ (i : Int), b = G.BI.abs → ts = [G.T.int i] → False) → (∀ (i : Int), b = G.BI.str → ts = [G.T.int i] → False) → (∀ (i j : Int), b = G.BI.max2 → ts = [G.T.int i, G.T.int j] → False) → (∀ (i j : Int), b = G.BI.min2 → ts = [G.T.int i, G.T.int j] → False) → (∀ (s : PySem.Str), b = G.BI.list → ts = [G.T.str s] → False) → (∀ (t : G.T), b = G.BI.list → ts = [t] → False) → (∀ (xs : List G.T), b = G.BI.tuple → ts = [G.T.tup xs] → False) → (∀ (t : G.T), b = G.BI.tuple → ts = [t] → False) → (∀ (t : G.T), b = G.BI.all → ts = [t] → False) → (∀ (t : G.T), b = G.BI.sum → ts = [t] → False) → (∀ (i j : Int), b = G.BI.gcd → ts = [G.T.int i, G.T.int j] → False) → (∀ (t : G.T), b = G.BI.sortedS → ts = [t] → False) → (∀ (t : G.T), b = G.BI.sortedI → ts = [t] → False) → (∀ (t : G.T), b = G.BI.sorted → ts = [t] → False) → (∀ (t : G.T), b = G.BI.repr → ts = [t] → False) → G.biR b ts = Option.none := @G.biR.eq_22
@[simp] theorem s_resOf_1 : ∀ (ivs : List G.Iv) (e : G.Env),
  G.resOf ivs (G.Out.ok G.Sg.nxt e) =
    match G.outsOf ivs e with
    | Option.some o => G.Res.ok (G.Iv.val G.T.non) o
    | Option.none => G.Res.stuck := @G.resOf.eq_1
@[simp] theorem s_resOf_2 : ∀ (ivs : List G.Iv) (iv : G.Iv) (e : G.Env),
  G.resOf ivs (G.Out.ok (G.Sg.ret iv) e) =
    match G.outsOf ivs e with
    | Option.some o => G.Res.ok iv o
    | Option.none => G.Res.stuck := @G.resOf.eq_2
@[simp] theorem s_resOf_3 : ∀ (ivs : List G.Iv) (x_1 : G.Xv) (e : G.Env),
  G.resOf ivs (G.Out.exc x_1 e) =
    match G.outsOf ivs e with
    | Option.some o => G.Res.exc x_1 o
    | Option.none => G.Res.stuck := @G.resOf.eq_3
@[simp] theorem s_resOf_4 : ∀ (ivs : List G.Iv) (x : G.Out G.Sg), (∀ (e : G.Env), x = G.Out.ok G.Sg.nxt e → False) → (∀ (iv : G.Iv) (e : G.Env), x = G.Out.ok (G.Sg.ret iv) e → False) → (∀ (x_1 : G.Xv) (e : G.Env), x = G.Out.exc x_1 e → False) → G.resOf ivs x = G.Res.stuck := @G.resOf.eq_4
@[simp] theorem s_outsOf_1 : ∀ (x : G.Env), G.outsOf [] x = Option.some [] := @G.outsOf.eq_1
@[simp] theorem s_outsOf_2 : ∀ (t : G.T) (ivs : List G.Iv) (head : Option G.Iv) (env : List (Option G.Iv)), G.outsOf (G.Iv.val t :: ivs) (head :: env) = Option.map (fun (x : List G.Iv) => G.Iv.val t :: x) (G.outsOf ivs env) := @G.outsOf.eq_2
@[simp] theorem s_outsOf_3 : ∀ (o : G.Ow) (ivs : List G.Iv) (iv : G.Iv) (env : List (Option G.Iv)), G.outsOf (G.Iv.own o :: ivs) (Option.some iv :: env) = Option.map (fun (x : List G.Iv) => iv :: x) (G.outsOf ivs env) := @G.outsOf.eq_3
@[simp] theorem s_outsOf_4 : ∀ (o : G.Ow) (ivs : List G.Iv) (iv : G.Iv) (env : List (Option G.Iv)), G.outsOf (G.Iv.lck o :: ivs) (Option.some iv :: env) = Option.map (fun (x : List G.Iv) => iv :: x) (G.outsOf ivs env) := @G.outsOf.eq_4
@[simp] theorem s_outsOf_5 : ∀ (x : G.Env) (head : G.Iv) (tail : List G.Iv), (∀ (t : G.T) (head_1 : Option G.Iv) (env : List (Option G.Iv)), x = head_1 :: env → head = G.Iv.val t → False) → (∀ (o : G.Ow) (iv : G.Iv) (env : List (Option G.Iv)), x = Option.some iv :: env → head = G.Iv.own o → False) → (∀ (o : G.Ow) (iv : G.Iv) (env : List (Option G.Iv)), x = Option.some iv :: env → head = G.Iv.lck o → False) → G.outsOf (head :: tail) x = Option.none := @G.outsOf.eq_5
@[simp] theorem s_fxOf_1 : ∀ (ivs : List G.Iv) (i : Nat),
  G.fxOf ivs i =
    match ivs[i]? with
    | Option.some (G.Iv.own o) => Bool.true
    | Option.some (G.Iv.lck o) => Bool.true
    | x => Bool.false := @G.fxOf.eq_1
@[simp] theorem s_lockE_1 : ∀ (env : G.Env), G.lockE env Option.none = env := @G.lockE.eq_1
@[simp] theorem s_lockE_2 : ∀ (env : G.Env) (i : Nat),
  G.lockE env (Option.some i) =
    match env[i]? with
    | Option.some (Option.some (G.Iv.own (G.Ow.lst o))) => List.set env i (Option.some (G.Iv.lck (G.Ow.lst o)))
    | x => env := @G.lockE.eq_2
@[simp] theorem s_unlockE_1 : ∀ (env : G.Env), G.unlockE env Option.none = env := @G.unlockE.eq_1
@[simp] theorem s_unlockE_2 : ∀ (env : G.Env) (i : Nat),
  G.unlockE env (Option.some i) =
    match env[i]? with
    | Option.some (Option.some (G.Iv.lck (G.Ow.lst o))) => List.set env i (Option.some (G.Iv.own (G.Ow.lst o)))
    | x => env := @G.unlockE.eq_2
@[simp] theorem s_lockOf_1 : ∀ (env : G.Env) (i : Nat),
  G.lockOf env (G.R.loan i) =
    match env[i]? with
    | Option.some (Option.some (G.Iv.own (G.Ow.lst xs))) => Option.some i
    | x => Option.none := @G.lockOf.eq_1
@[simp] theorem s_lockOf_2 : ∀ (env : G.Env) (x : G.R), (∀ (i : Nat), x = G.R.loan i → False) → G.lockOf env x = Option.none := @G.lockOf.eq_2
@[simp] theorem s_seqI_1 : ∀ (xs : List G.T), G.seqI (G.T.lst xs) = Option.some xs := @G.seqI.eq_1
@[simp] theorem s_seqI_2 : ∀ (xs : List G.T), G.seqI (G.T.rlst xs) = Option.some xs := @G.seqI.eq_2
@[simp] theorem s_seqI_3 : ∀ (xs : List G.T), G.seqI (G.T.tup xs) = Option.some xs := @G.seqI.eq_3
@[simp] theorem s_seqI_4 : ∀ (z : PySem.Str), G.seqI (G.T.str z) = Option.some (List.map (fun (c : Nat) => G.T.str { cps := #[c] }) (Array.toList (PySem.Str.cps z))) := @G.seqI.eq_4
@[simp] theorem s_seqI_5 : ∀ (x : G.T), (∀ (xs : List G.T), x = G.T.lst xs → False) → (∀ (xs : List G.T), x = G.T.rlst xs → False) → (∀ (xs : List G.T), x = G.T.tup xs → False) → (∀ (z : PySem.Str), x = G.T.str z → False) → G.seqI x = Option.none := @G.seqI.eq_5
@[simp] theorem s_seqL_1 : ∀ (xs : List G.T), G.seqL (G.T.lst xs) = Option.some xs := @G.seqL.eq_1
@[simp] theorem s_seqL_2 : ∀ (xs : List G.T), G.seqL (G.T.rlst xs) = Option.some xs := @G.seqL.eq_2
@[simp] theorem s_seqL_3 : ∀ (x : G.T), (∀ (xs : List G.T), x = G.T.lst xs → False) → (∀ (xs : List G.T), x = G.T.rlst xs → False) → G.seqL x = Option.none := @G.seqL.eq_3
@[simp] theorem s_seqA_1 : ∀ (xs : List G.T), G.seqA (G.T.lst xs) = Option.some xs := @G.seqA.eq_1
@[simp] theorem s_seqA_2 : ∀ (xs : List G.T), G.seqA (G.T.rlst xs) = Option.some xs := @G.seqA.eq_2
@[simp] theorem s_seqA_3 : ∀ (xs : List G.T), G.seqA (G.T.tup xs) = Option.some xs := @G.seqA.eq_3
@[simp] theorem s_seqA_4 : ∀ (x : G.T), (∀ (xs : List G.T), x = G.T.lst xs → False) → (∀ (xs : List G.T), x = G.T.rlst xs → False) → (∀ (xs : List G.T), x = G.T.tup xs → False) → G.seqA x = Option.none := @G.seqA.eq_4
@[simp] theorem s_keyT_1 : ∀ (i : Int), G.keyT (G.T.int i) = Option.some (Sum.inl i) := @G.keyT.eq_1
@[simp] theorem s_keyT_2 : ∀ (s : PySem.Str), G.keyT (G.T.str s) = Option.some (Sum.inr s) := @G.keyT.eq_2
@[simp] theorem s_keyT_3 : ∀ (x : G.T), (∀ (i : Int), x = G.T.int i → False) → (∀ (s : PySem.Str), x = G.T.str s → False) → G.keyT x = Option.none := @G.keyT.eq_3
@[simp] theorem s_IEs_len_1 : G.IEs.len G.IEs.nil = 0 := @G.IEs.len.eq_1
@[simp] theorem s_IEs_len_2 : ∀ (e : G.IE) (es : G.IEs), G.IEs.len (G.IEs.cons e es) = G.IEs.len es + 1 := @G.IEs.len.eq_2
@[simp] theorem s_atI_1 : ∀ {α : Type} (xs : List α) (i : Int), L2.atI xs i = Option.bind (L2.ixN (List.length xs) i) fun (j : Nat) => xs[j]? := @L2.atI.eq_1
@[simp] theorem s_ixN_1 : ∀ (n : Nat) (i : Int), L2.ixN n i = if 0 ≤ i then if i < ↑n then Option.some (Int.toNat i) else Option.none else if -↑n ≤ i then Option.some (Int.toNat (i + ↑n)) else Option.none := @L2.ixN.eq_1
@[simp] theorem s_isinR_1 : ∀ (t : G.T) (tys : List String), G.isinR t tys = List.any tys fun (n : String) => n == G.tyName t || G.tyName t == "bool" && n == "int" := @G.isinR.eq_1
@[simp] theorem s_tyName_1 : G.tyName G.T.non = "NoneType" := @G.tyName.eq_1
@[simp] theorem s_tyName_2 : ∀ (b : Bool), G.tyName (G.T.bl b) = "bool" := @G.tyName.eq_2
@[simp] theorem s_tyName_3 : ∀ (i : Int), G.tyName (G.T.int i) = "int" := @G.tyName.eq_3
@[simp] theorem s_tyName_4 : ∀ (s : PySem.Str), G.tyName (G.T.str s) = "str" := @G.tyName.eq_4
@[simp] theorem s_tyName_5 : ∀ (xs : List G.T), G.tyName (G.T.tup xs) = "tuple" := @G.tyName.eq_5
@[simp] theorem s_tyName_6 : ∀ (xs : List G.T), G.tyName (G.T.lst xs) = "list" := @G.tyName.eq_6
@[simp] theorem s_tyName_7 : ∀ (xs : List G.T), G.tyName (G.T.rlst xs) = "list" := @G.tyName.eq_7
@[simp] theorem s_tyName_8 : ∀ (kvs : List (L2.Key × G.T)), G.tyName (G.T.dic kvs) = "dict" := @G.tyName.eq_8
@[simp] theorem s_tyName_9 : ∀ (a : PySem.Addr), G.tyName (G.T.adr a) = "dict" := @G.tyName.eq_9
@[simp] theorem s_tyName_10 : ∀ (nm : PySem.Str) (kvs : List (L2.Key × G.T)), G.tyName (G.T.obj nm kvs) = "dict" := @G.tyName.eq_10
@[simp] theorem s_bindT_1 : ∀ (fx : Nat → Bool) (t : G.T) (env : G.Env) (a : Nat), G.bindT fx (G.Tgt.name a) t env = G.bindAll fx [a] [t] env := @G.bindT.eq_1
@[simp] theorem s_bindT_2 : ∀ (fx : Nat → Bool) (env : G.Env) (a : List Nat) (ts : List G.T), G.bindT fx (G.Tgt.tup a) (G.T.tup ts) env = G.bindAll fx a ts env := @G.bindT.eq_2
@[simp] theorem s_bindT_3 : ∀ (fx : Nat → Bool) (t : G.T) (env : G.Env) (a : List Nat), (∀ (ts : List G.T), t = G.T.tup ts → False) → G.bindT fx (G.Tgt.tup a) t env = Option.none := @G.bindT.eq_3
@[simp] theorem s_bindAll_1 : ∀ (fx : Nat → Bool) (x : G.Env), G.bindAll fx [] [] x = Option.some x := @G.bindAll.eq_1
@[simp] theorem s_bindAll_2 : ∀ (fx : Nat → Bool) (x : G.Env) (i : Nat) (is : List Nat) (t : G.T) (ts : List G.T), G.bindAll fx (i :: is) (t :: ts) x = if i < List.length x ∧ fx i = Bool.false then G.bindAll fx is ts (List.set x i (Option.some (G.Iv.val t))) else Option.none := @G.bindAll.eq_2
@[simp] theorem s_bindAll_3 : ∀ (fx : Nat → Bool) (x : List Nat) (x_1 : List G.T) (x_2 : G.Env), (x = [] → x_1 = [] → False) → (∀ (i : Nat) (is : List Nat) (t : G.T) (ts : List G.T), x = i :: is → x_1 = t :: ts → False) → G.bindAll fx x x_1 x_2 = Option.none := @G.bindAll.eq_3
@[simp] theorem s_wipeE_1 : ∀ (env : G.Env), G.wipeE env [] = env := @G.wipeE.eq_1
@[simp] theorem s_wipeE_2 : ∀ (env : G.Env) (v : Nat) (vs : List Nat), G.wipeE env (v :: vs) = List.set (G.wipeE env vs) v Option.none := @G.wipeE.eq_2
@[simp] theorem s_slR_1 : ∀ (lo hi : Option Int) (xs : List G.T), G.slR (G.T.lst xs) lo hi = Option.some (G.Rv.lst (G.cutT xs lo hi)) := @G.slR.eq_1
@[simp] theorem s_slR_2 : ∀ (lo hi : Option Int) (xs : List G.T), G.slR (G.T.rlst xs) lo hi = Option.some (G.Rv.lst (G.cutT xs lo hi)) := @G.slR.eq_2
@[simp] theorem s_slR_3 : ∀ (lo hi : Option Int) (xs : List G.T), G.slR (G.T.tup xs) lo hi = Option.some (G.Rv.tup (G.cutT xs lo hi)) := @G.slR.eq_3
@[simp] theorem s_slR_4 : ∀ (lo hi : Option Int) (z : PySem.Str), G.slR (G.T.str z) lo hi = if PySem.Str.length z ≤ PySem.sizeLine then Option.some (G.Rv.val (G.T.str (L2.cutS z lo hi))) else Option.none := @G.slR.eq_4
@[simp] theorem s_slR_5 : ∀ (x : G.T) (lo hi : Option Int), (∀ (xs : List G.T), x = G.T.lst xs → False) → (∀ (xs : List G.T), x = G.T.rlst xs → False) → (∀ (xs : List G.T), x = G.T.tup xs → False) → (∀ (z : PySem.Str), x = G.T.str z → False) → G.slR x lo hi = Option.none := @G.slR.eq_5
@[simp] theorem s_lockD_1 : ∀ (env : G.Env) (i : Nat),
  G.lockD env i =
    match env[i]? with
    | Option.some (Option.some (G.Iv.own (G.Ow.dic o))) => List.set env i (Option.some (G.Iv.lck (G.Ow.dic o)))
    | x => env := @G.lockD.eq_1
@[simp] theorem s_isD_1 : ∀ (env : G.Env) (i : Nat),
  G.isD env i =
    match env[i]? with
    | Option.some (Option.some (G.Iv.own (G.Ow.dic kvs))) => Bool.true
    | x => Bool.false := @G.isD.eq_1
@[simp] theorem s_unlockR_1 : ∀ {α : Type} (i : Nat) (a : α) (e : G.Env),
  G.unlockR i (G.Out.ok a e) =
    match e[i]? with
    | Option.some (Option.some (G.Iv.lck (G.Ow.dic o))) => G.Out.ok a (List.set e i (Option.some (G.Iv.own (G.Ow.dic o))))
    | x => G.Out.stuck := @G.unlockR.eq_1
@[simp] theorem s_dicOf_1 : ∀ (env : G.Env) (i : Nat),
  G.dicOf env (G.R.loan i) =
    match env[i]? with
    | Option.some (Option.some (G.Iv.lck (G.Ow.dic kts))) => Option.some kts
    | x => Option.none := @G.dicOf.eq_1
@[simp] theorem s_dicOf_2 : ∀ (env : G.Env) (x : G.R), (∀ (i : Nat), x = G.R.loan i → False) → G.dicOf env x = Option.none := @G.dicOf.eq_2
@[simp] theorem s_pairUp_1 : G.pairUp [] = Option.some [] := @G.pairUp.eq_1
@[simp] theorem s_pairUp_2 : ∀ (k v : G.T) (r : List G.T), G.pairUp (k :: v :: r) = Option.bind (G.keyT k) fun (k : L2.Key) => Option.map (fun (x : List (L2.Key × G.T)) => (k, v) :: x) (G.pairUp r) := @G.pairUp.eq_2
@[simp] theorem s_pairUp_3 : ∀ (x : List G.T), (x = [] → False) → (∀ (k v : G.T) (r : List G.T), x = k :: v :: r → False) → G.pairUp x = Option.none := @G.pairUp.eq_3
@[simp] theorem s_isDicT_1 : ∀ (kvs : List (L2.Key × G.T)), G.isDicT (G.T.dic kvs) = Bool.true := @G.isDicT.eq_1
@[simp] theorem s_isDicT_2 : ∀ (a : PySem.Addr), G.isDicT (G.T.adr a) = Bool.true := @G.isDicT.eq_2
@[simp] theorem s_isDicT_3 : ∀ (nm : PySem.Str) (kvs : List (L2.Key × G.T)), G.isDicT (G.T.obj nm kvs) = Bool.true := @G.isDicT.eq_3
@[simp] theorem s_isDicT_4 : ∀ (x : G.T), (∀ (kvs : List (L2.Key × G.T)), x = G.T.dic kvs → False) → (∀ (a : PySem.Addr), x = G.T.adr a → False) → (∀ (nm : PySem.Str) (kvs : List (L2.Key × G.T)), x = G.T.obj nm kvs → False) → G.isDicT x = Bool.false := @G.isDicT.eq_4
@[simp] theorem s_isSq_1 : ∀ (xs : List G.T), G.isSq (G.T.lst xs) = Bool.true := @G.isSq.eq_1
@[simp] theorem s_isSq_2 : ∀ (xs : List G.T), G.isSq (G.T.tup xs) = Bool.true := @G.isSq.eq_2
@[simp] theorem s_isSq_3 : ∀ (x : G.T), (∀ (xs : List G.T), x = G.T.lst xs → False) → (∀ (xs : List G.T), x = G.T.tup xs → False) → G.isSq x = Bool.false := @G.isSq.eq_3
@[simp] theorem s_mapE_1 : ∀ {α : Type} (f : G.Env → G.Env) (a : α) (e : G.Env), G.mapE f (G.Out.ok a e) = G.Out.ok a (f e) := @G.mapE.eq_1
@[simp] theorem s_noexc_1 : ∀ {α : Type} (a : α) (e : G.Env), G.noexc (G.Out.ok a e) = G.Out.ok a e := @G.noexc.eq_1
@[simp] theorem s_ofO_1 : ∀ {α : Type} (x : G.Env) (a : α), G.ofO (Option.some a) x = G.Out.ok a x := @G.ofO.eq_1
@[simp] theorem s_su_1 : ∀ (C : Nat → List G.Iv → G.Res) (Gl : Nat → G.T) (D : Nat → Nat → List G.T) (fx : Nat → Bool) (x : G.Env) (i : Nat) (e : G.IE), G.su C Gl D fx (G.SU.asg i e) x = G.Out.bind (G.ev C Gl D e x) fun (r : G.R) (e1 : G.Env) => G.asgR fx i r e1 := @G.su.eq_1
@[simp] theorem s_su_2 : ∀ (C : Nat → List G.Iv → G.Res) (Gl : Nat → G.T) (D : Nat → Nat → List G.T) (fx : Nat → Bool) (x : G.Env) (e : G.IE), G.su C Gl D fx (G.SU.ret e) x = G.Out.bind (G.ev C Gl D e x) fun (r : G.R) (e1 : G.Env) => G.retR fx r e1 := @G.su.eq_2
@[simp] theorem s_su_3 : ∀ (C : Nat → List G.Iv → G.Res) (Gl : Nat → G.T) (D : Nat → Nat → List G.T) (fx : Nat → Bool) (x : G.Env), G.su C Gl D fx G.SU.retN x = G.Out.ok (G.Sg.ret (G.Iv.val G.T.non)) x := @G.su.eq_3
@[simp] theorem s_su_4 : ∀ (C : Nat → List G.Iv → G.Res) (Gl : Nat → G.T) (D : Nat → Nat → List G.T) (fx : Nat → Bool) (x : G.Env), G.su C Gl D fx G.SU.pass x = G.Out.ok G.Sg.nxt x := @G.su.eq_4
@[simp] theorem s_su_5 : ∀ (C : Nat → List G.Iv → G.Res) (Gl : Nat → G.T) (D : Nat → Nat → List G.T) (fx : Nat → Bool) (x : G.Env) (c : G.IB) (a b : G.SUs), G.su C Gl D fx (G.SU.ite c a b) x = G.Out.bind (G.evT C Gl D c x) fun (k : Bool) (e1 : G.Env) => if k = Bool.true then G.sus C Gl D fx a e1 else G.sus C Gl D fx b e1 := @G.su.eq_5
@[simp] theorem s_sus_1 : ∀ (C : Nat → List G.Iv → G.Res) (Gl : Nat → G.T) (D : Nat → Nat → List G.T) (fx : Nat → Bool) (x : G.Env), G.sus C Gl D fx G.SUs.nil x = G.Out.ok G.Sg.nxt x := @G.sus.eq_1
@[simp] theorem s_sus_2 : ∀ (C : Nat → List G.Iv → G.Res) (Gl : Nat → G.T) (D : Nat → Nat → List G.T) (fx : Nat → Bool) (x : G.Env) (s : G.SU) (ss : G.SUs),
  G.sus C Gl D fx (G.SUs.cons s ss) x =
    G.Out.bind (G.su C Gl D fx s x) fun (g : G.Sg) (e1 : G.Env) =>
      match g with
      | G.Sg.nxt => G.sus C Gl D fx ss e1
      | g => G.Out.ok g e1 := @G.sus.eq_2
@[simp] theorem s_wipeO_1 : ∀ (env : G.Env), G.wipeO env Option.none = env := @G.wipeO.eq_1
@[simp] theorem s_wipeO_2 : ∀ (env : G.Env) (i : Nat), G.wipeO env (Option.some i) = List.set env i Option.none := @G.wipeO.eq_2
@[simp] theorem s_slotOk_1 : ∀ (fx : Nat → Bool) (env : G.Env), G.slotOk fx Option.none env = Bool.true := @G.slotOk.eq_1
@[simp] theorem s_slotOk_2 : ∀ (fx : Nat → Bool) (env : G.Env) (i : Nat), G.slotOk fx (Option.some i) env = (Decidable.decide (i < List.length env) && !fx i) := @G.slotOk.eq_2
@[simp] theorem s_errR_1 : ∀ (m : Nat → G.T → PySem.Addr → G.Env → G.Out G.Sg) (ns : Nat) (b : PySem.Addr) (nm : PySem.Str) (kvs : List (L2.Key × G.T)),
  G.errR m ns [G.Iv.val (G.T.tup [G.T.adr b, G.T.str nm, G.T.dic kvs])] =
    match m ns (G.T.tup [G.T.adr b, G.T.str nm, G.T.dic kvs]) b (Option.some (G.Iv.val (G.T.adr b)) :: List.replicate (ns - 1) Option.none) with
    | G.Out.ok (G.Sg.ret (G.Iv.val t)) env => G.Res.ok (G.Iv.val t) []
    | x => G.Res.stuck := @G.errR.eq_1
@[simp] theorem s_errR_2 : ∀ (m : Nat → G.T → PySem.Addr → G.Env → G.Out G.Sg) (ns : Nat) (ivs : List G.Iv), (∀ (b : PySem.Addr) (nm : PySem.Str) (kvs : List (L2.Key × G.T)), ivs = [G.Iv.val (G.T.tup [G.T.adr b, G.T.str nm, G.T.dic kvs])] → False) → G.errR m ns ivs = G.Res.stuck := @G.errR.eq_2
@[simp] theorem s_truR_4 (y : Str) : truR (.str y) = if y.length ≤ sizeLine then some ((y.length : Int) != 0) else none := rfl
end G
namespace G
open PySem PySem.Spec PyProof.Rows L2

/-! # plain laws: loops and comprehensions -/
@[simp] theorem szle {n : Nat} (h : n ≤ 100000) : (n ≤ sizeLine) = True := eq_true (Nat.le_trans h (by decide))
@[simp] theorem szlt {n : Nat} (h : n ≤ 100000) : (n < sizeLine) = True := eq_true (Nat.lt_of_le_of_lt h (by decide))
theorem lt_size {n : Nat} (h : n ≤ 100000) : n < sizeLine := Nat.lt_of_le_of_lt h (by decide)
theorem le_size {n : Nat} (h : n ≤ 100000) : n ≤ sizeLine := Nat.le_trans h (by decide)
section
variable {C : Nat → List Iv → Res} {G : Nat → T} {D : Nat → Nat → List T} {fx : Nat → Bool} {L : Nat}
/-- one turn of a comprehension, its names bound -/
def lcOne (C : Nat → List Iv → Res) (G : Nat → T) (D : Nat → Nat → List T) (cond : IBO) (elt : IE) (e2 : Env) : Out (Option T) := (evC C G D cond e2).bind fun k e3 => if k then (ev C G D elt e3).bind fun r e4 => ofO ((esc e4 r).map some) e4 else .ok none e3
@[simp] theorem s_lcOne (C : Nat → List Iv → Res) (G : Nat → T) (D : Nat → Nat → List T) (cond : IBO) (elt : IE) (e2 : Env) : lcOne C G D cond elt e2 = (evC C G D cond e2).bind fun k e3 => if k then (ev C G D elt e3).bind fun r e4 => ofO ((esc e4 r).map some) e4 else .ok none e3 := rfl
theorem lcLoop_pure {α : Type} {f : α → T} {step : T → Env → Out (Option T)} {vs : List Nat} {w0 : Env} {g : α → Option T} : ∀ {xs : List α} {acc : List T} {e : Env}, (∀ x ∈ xs, ∀ e, wipeE e vs = w0 → ∃ e', step (f x) e = .ok (g x) e' ∧ wipeE e' vs = w0) → wipeE e vs = w0 → acc.length + xs.length < sizeLine →
    ∃ e', lcLoop step (xs.map f) acc e = .ok (acc ++ xs.filterMap g) e' ∧ wipeE e' vs = w0
  | [], acc, e, _, he, _ => ⟨e, by simp [lcLoop], he⟩
  | x :: xs, acc, e, h, he, hz => by
    obtain ⟨e1, h1, h2⟩ := h x (by simp) e he
    simp only [List.length_cons] at hz
    have h' : ∀ u ∈ xs, ∀ e, wipeE e vs = w0 → ∃ e', step (f u) e = .ok (g u) e' ∧ wipeE e' vs = w0 := fun u hu => h u (by simp [hu])
    cases hg : g x with
    | none =>
      obtain ⟨e2, h3, h4⟩ := lcLoop_pure (acc := acc) h' h2 (by omega)
      refine ⟨e2, ?_, h4⟩
      simp only [List.map_cons, lcLoop, h1, hg, s_bind_ok, List.filterMap_cons]
      exact h3
    | some y =>
      obtain ⟨e2, h3, h4⟩ := lcLoop_pure (acc := acc ++ [y]) h' h2 (by simp; omega)
      refine ⟨e2, ?_, h4⟩
      simp only [List.map_cons, lcLoop, h1, hg, s_bind_ok, List.filterMap_cons]
      rw [if_pos (by omega), h3]
      simp
/-- a comprehension whose turns leave all else as it is; x comes as f x, and gives g x or nothing -/
theorem lc_opt {α : Type} {src : Src} {tg : Tgt} {cond : IBO} {elt : IE} {own : List (Str × Nat)} {env e1 : Env} {xs : List α} {f : α → T} {lk : Option Nat} (w0 : Env) (g : α → Option T) (hs : evSrc C G D src env = .ok (xs.map f, lk) e1) (hw : wipeE (lockE e1 lk) (own.map (·.2)) = w0)
    (step : ∀ x ∈ xs, ∃ e2 e', bindT (fun _ => false) tg (f x) w0 = some e2 ∧ lcOne C G D cond elt e2 = .ok (g x) e' ∧ wipeE e' (own.map (·.2)) = w0) (hz : xs.length < sizeLine) :
    ev C G D (.lc src tg cond elt own) env = .ok (.new (.lst (xs.filterMap g))) (unlockE w0 lk) := by
  obtain ⟨e', h1, h2⟩ := lcLoop_pure (step := fun t e => match bindT (fun _ => false) tg t (wipeE e (own.map (·.2))) with
        | none => .stuck
        | some e2 => noexc ((evC C G D cond e2).bind fun k e3 => if k then (ev C G D elt e3).bind fun r e4 => ofO ((esc e4 r).map some) e4 else .ok none e3)) (vs := own.map (·.2)) (w0 := w0) (f := f) (g := g) (xs := xs) (acc := []) (e := lockE e1 lk) (fun t ht e he => by
      obtain ⟨e2, e', q1, q2, q3⟩ := step t ht
      refine ⟨e', ?_, q3⟩
      simp only [he, q1]
      unfold lcOne at q2
      rw [q2]
      rfl) hw (by simpa using hz)
  show (evSrc C G D src env).bind _ = _
  rw [hs, s_bind_ok]
  refine Eq.trans (congrArg (fun o : Out (List T) => o.bind fun acc e5 => Out.ok (R.new (.lst acc)) (unlockE (wipeE e5 (own.map (·.2))) lk)) h1) ?_
  simp only [s_bind_ok, h2, List.nil_append]
/-- .. each x gives g x -/
theorem lc_map {α : Type} {src : Src} {tg : Tgt} {cond : IBO} {elt : IE} {own : List (Str × Nat)} {env e1 : Env} {xs : List α} {f : α → T} {lk : Option Nat} (w0 : Env) (g : α → T) (hs : evSrc C G D src env = .ok (xs.map f, lk) e1) (hw : wipeE (lockE e1 lk) (own.map (·.2)) = w0)
    (step : ∀ x ∈ xs, ∃ e2 e', bindT (fun _ => false) tg (f x) w0 = some e2 ∧ lcOne C G D cond elt e2 = .ok (some (g x)) e' ∧ wipeE e' (own.map (·.2)) = w0) (hz : xs.length < sizeLine) :
    ev C G D (.lc src tg cond elt own) env = .ok (.new (.lst (xs.map g))) (unlockE w0 lk) := by
  rw [lc_opt w0 (fun x => some (g x)) hs hw step hz]
  simp
/-- .. those with p x give g x -/
theorem lc_filter {α : Type} {src : Src} {tg : Tgt} {cond : IBO} {elt : IE} {own : List (Str × Nat)} {env e1 : Env} {xs : List α} {f : α → T} {lk : Option Nat} (w0 : Env) (p : α → Bool) (g : α → T) (hs : evSrc C G D src env = .ok (xs.map f, lk) e1) (hw : wipeE (lockE e1 lk) (own.map (·.2)) = w0)
    (step : ∀ x ∈ xs, ∃ e2 e', bindT (fun _ => false) tg (f x) w0 = some e2 ∧ lcOne C G D cond elt e2 = .ok (if p x = true then some (g x) else none) e' ∧ wipeE e' (own.map (·.2)) = w0) (hz : xs.length < sizeLine) :
    ev C G D (.lc src tg cond elt own) env = .ok (.new (.lst ((xs.filter p).map g))) (unlockE w0 lk) := by
  rw [lc_opt w0 (fun x => if p x = true then some (g x) else none) hs hw step hz]
  congr 3
  clear step hz hs
  induction xs with
  | nil => rfl
  | cons x xs ih =>
    by_cases h : p x = true
    · simp [List.filterMap_cons, h, ih]
    · simp [List.filterMap_cons, h, ih]
/-- a dict comprehension -/
def dcOne (C : Nat → List Iv → Res) (G : Nat → T) (D : Nat → Nat → List T) (cond : IBO) (key val : IE) (e2 : Env) : Out (Option (Key × T)) := (evC C G D cond e2).bind fun k e3 => if k then (ev C G D key e3).bind fun rk e4 => (ev C G D val e4).bind fun rv e5 => ofO (((lookT e5 rk).bind keyT).bind fun k => (esc e5 rv).map fun t => some (k, t)) e5 else .ok none e3
@[simp] theorem s_dcOne (C : Nat → List Iv → Res) (G : Nat → T) (D : Nat → Nat → List T) (cond : IBO) (key val : IE) (e2 : Env) : dcOne C G D cond key val e2 = (evC C G D cond e2).bind fun k e3 => if k then (ev C G D key e3).bind fun rk e4 => (ev C G D val e4).bind fun rv e5 => ofO (((lookT e5 rk).bind keyT).bind fun k => (esc e5 rv).map fun t => some (k, t)) e5 else .ok none e3 := rfl
theorem putT_len (kts : List (Key × T)) (k : Key) (t : T) : (putT kts k t).length ≤ kts.length + 1 := by
  unfold putT
  split <;> simp
theorem dcLoop_pure {α : Type} {f : α → T} {step : T → Env → Out (Option (Key × T))} {vs : List Nat} {w0 : Env} {g : α → Key × T} : ∀ {xs : List α} {acc : List (Key × T)} {e : Env}, (∀ x ∈ xs, ∀ e, wipeE e vs = w0 → ∃ e', step (f x) e = .ok (some (g x)) e' ∧ wipeE e' vs = w0) → wipeE e vs = w0 → acc.length + xs.length < sizeLine →
    ∃ e', dcLoop step (xs.map f) acc e = .ok (xs.foldl (fun acc x => putT acc (g x).1 (g x).2) acc) e' ∧ wipeE e' vs = w0
  | [], acc, e, _, he, _ => ⟨e, by simp [dcLoop], he⟩
  | x :: xs, acc, e, h, he, hz => by
    obtain ⟨e1, h1, h2⟩ := h x (by simp) e he
    simp only [List.length_cons] at hz
    have h' : ∀ u ∈ xs, ∀ e, wipeE e vs = w0 → ∃ e', step (f u) e = .ok (some (g u)) e' ∧ wipeE e' vs = w0 := fun u hu => h u (by simp [hu])
    have hp := putT_len acc (g x).1 (g x).2
    obtain ⟨e2, h3, h4⟩ := dcLoop_pure (acc := putT acc (g x).1 (g x).2) h' h2 (by omega)
    refine ⟨e2, ?_, h4⟩
    simp only [List.map_cons, dcLoop, h1, s_bind_ok, List.foldl_cons]
    rw [if_pos (by omega), h3]
theorem dc_map {α : Type} {src : Src} {tg : Tgt} {cond : IBO} {key val : IE} {own : List (Str × Nat)} {env e1 : Env} {xs : List α} {f : α → T} {lk : Option Nat} (w0 : Env) (g : α → Key × T) (hs : evSrc C G D src env = .ok (xs.map f, lk) e1) (hw : wipeE (lockE e1 lk) (own.map (·.2)) = w0)
    (step : ∀ x ∈ xs, ∃ e2 e', bindT (fun _ => false) tg (f x) w0 = some e2 ∧ dcOne C G D cond key val e2 = .ok (some (g x)) e' ∧ wipeE e' (own.map (·.2)) = w0) (hz : xs.length < sizeLine) :
    ev C G D (.dc src tg cond key val own) env = .ok (.new (.dic (xs.foldl (fun acc x => putT acc (g x).1 (g x).2) []))) (unlockE w0 lk) := by
  obtain ⟨e', h1, h2⟩ := dcLoop_pure (step := fun t e => match bindT (fun _ => false) tg t (wipeE e (own.map (·.2))) with
        | none => .stuck
        | some e2 => noexc ((evC C G D cond e2).bind fun k e3 => if k then (ev C G D key e3).bind fun rk e4 => (ev C G D val e4).bind fun rv e5 => ofO (((lookT e5 rk).bind keyT).bind fun k => (esc e5 rv).map fun t => some (k, t)) e5 else .ok none e3)) (vs := own.map (·.2)) (w0 := w0) (f := f) (g := g) (xs := xs) (acc := []) (e := lockE e1 lk) (fun t ht e he => by
      obtain ⟨e2, e', q1, q2, q3⟩ := step t ht
      refine ⟨e', ?_, q3⟩
      simp only [he, q1]
      unfold dcOne at q2
      rw [q2]
      rfl) hw (by simpa using hz)
  show (evSrc C G D src env).bind _ = _
  rw [hs, s_bind_ok]
  refine Eq.trans (congrArg (fun o : Out (List (Key × T)) => o.bind fun acc e5 => Out.ok (R.new (.dic acc)) (unlockE (wipeE e5 (own.map (·.2))) lk)) h1) ?_
  simp only [s_bind_ok, h2]
/-! ## loops -/
/-- a loop whose body goes on: I s e, the state s stands in e; rest: what is left -/
theorem forL_st {α σ : Type} {tg : Tgt} {body : Env → Out Sg} {f : α → T} (I : σ → Env → Prop) (st : σ → α → σ) : ∀ {xs : List α} {s : σ} {e : Env},
    (∀ x ∈ xs, ∀ s e, I s e → ∃ e1 e2, bindT fx tg (f x) e = some e1 ∧ body e1 = .ok .nxt e2 ∧ I (st s x) e2) → I s e → ∃ e', forL fx tg body (xs.map f) e = .ok .nxt e' ∧ I (xs.foldl st s) e'
  | [], s, e, _, he => ⟨e, rfl, he⟩
  | x :: xs, s, e, h, he => by
    obtain ⟨e1, e2, h1, h2, h3⟩ := h x (by simp) s e he
    obtain ⟨e3, h4, h5⟩ := forL_st I st (xs := xs) (fun u hu => h u (by simp [hu])) h3
    exact ⟨e3, by simp only [List.map_cons, forL, h1, h2, s_bind_ok, h4], h5⟩
/-- .. told by what is done and what is left -/
theorem forL_pos {α : Type} {tg : Tgt} {body : Env → Out Sg} {f : α → T} (I : List α → List α → Env → Prop) : ∀ {xs : List α} {pre : List α} {e : Env},
    (∀ pre x xs e, I pre (x :: xs) e → ∃ e1 e2, bindT fx tg (f x) e = some e1 ∧ body e1 = .ok .nxt e2 ∧ I (pre ++ [x]) xs e2) → I pre xs e → ∃ e', forL fx tg body (xs.map f) e = .ok .nxt e' ∧ I (pre ++ xs) [] e'
  | [], pre, e, _, he => ⟨e, rfl, by simpa using he⟩
  | x :: xs, pre, e, h, he => by
    obtain ⟨e1, e2, h1, h2, h3⟩ := h pre x xs e he
    obtain ⟨e3, h4, h5⟩ := forL_pos I (xs := xs) h h3
    exact ⟨e3, by simp only [List.map_cons, forL, h1, h2, s_bind_ok, h4], by simpa using h5⟩
/-- a loop that may hand back: r x, what is handed back at x -/
theorem forL_find {α : Type} {tg : Tgt} {body : Env → Out Sg} {f : α → T} (I : Env → Prop) (r : α → Option Iv) : ∀ {xs : List α} {e : Env},
    (∀ x ∈ xs, ∀ e, I e → ∃ e1 e2, bindT fx tg (f x) e = some e1 ∧ body e1 = .ok (match r x with | some iv => .ret iv | none => .nxt) e2 ∧ I e2) → I e → ∃ e', forL fx tg body (xs.map f) e = .ok (match xs.findSome? r with | some iv => .ret iv | none => .nxt) e' ∧ I e'
  | [], e, _, he => ⟨e, rfl, he⟩
  | x :: xs, e, h, he => by
    obtain ⟨e1, e2, h1, h2, h3⟩ := h x (by simp) e he
    cases hr : r x with
    | some iv => exact ⟨e2, by simp only [List.map_cons, forL, h1, h2, hr, s_bind_ok, List.findSome?_cons], h3⟩
    | none =>
      obtain ⟨e3, h4, h5⟩ := forL_find I r (xs := xs) (fun u hu => h u (by simp [hu])) h3
      exact ⟨e3, by simp only [List.map_cons, forL, h1, h2, hr, s_bind_ok, h4, List.findSome?_cons], h5⟩
theorem for_ok {tg : Tgt} {src : Src} {body : ISs} {env e1 e' : Env} {items : List T} {lk : Option Nat} {g : Sg} (hs : evSrc C G D src env = .ok (items, lk) e1) (h : forL fx tg (xcs C G D fx L body) items (lockE e1 lk) = .ok g e') :
    xc C G D fx L (.for tg src body) env = .ok g (unlockE e' lk) := by
  show (evSrc C G D src env).bind _ = _
  rw [hs, s_bind_ok, h]
  rfl
end
theorem inRng_nat {z : Nat} (h : z ≤ 1000000000) : inRng (z : Int) = true := by
  refine Nat.ble_eq.mpr ?_
  omega
theorem inRng_int {z : Int} (h : -1000000000 ≤ z ∧ z ≤ 1000000000) : inRng z = true := by
  refine Nat.ble_eq.mpr ?_
  omega
theorem rngT_map (lo : Int) (n : Nat) : rngT lo n = (List.range n).map fun k => T.int (lo + (k : Nat)) := rfl
theorem src_rng1 {C : Nat → List Iv → Res} {G : Nat → T} {D : Nat → Nat → List T} {e : IE} {env e1 : Env} {z : Nat} (h : ev C G D e env = .ok (.val (.int z)) e1) (hz : z ≤ 1000000000) : evSrc C G D (.rng1 e) env = .ok ((List.range z).map (fun k => T.int (0 + (k : Nat))), none) e1 := by
  rw [evSrc.eq_2, h, s_bind_ok]
  show (if inRng (z : Int) = true then Out.ok (rngT 0 (z : Int).toNat, none) e1 else .stuck) = _
  rw [if_pos (inRng_nat hz), Int.toNat_natCast]
  rfl
@[simp] theorem mulOk_l {i j : Int} (h : -(2 ^ 64) < i ∧ i < 2 ^ 64) : mulOk i j = true := by
  unfold mulOk; rw [decide_eq_true h]; rfl
@[simp] theorem mulOk_r {i j : Int} (h : -(2 ^ 64) < j ∧ j < 2 ^ 64) : mulOk i j = true := by
  unfold mulOk; rw [decide_eq_true h]; simp
theorem callF_succ {Pr : Nat → Option FnI} {Gl : Nat → T} {D : Nat → Nat → List T} {L k i : Nat} {ivs : List Iv} {f : FnI} (h : Pr i = some f) (hl : ivs.length = f.np) (he : errS f.body = none := by rfl) : callF Pr Gl D L (k + 1) i ivs = resOf ivs (xcs (callF Pr Gl D L k) Gl D (fxOf ivs) L f.body (ivs.map some ++ List.replicate (f.ns - f.np) none)) := by
  simp only [callF, h, he, if_pos hl]
theorem callE_succ {Pr : Nat → Option FnI} {G : Nat → T} {D : Nat → Nat → List T} {L k i : Nat} {ivs : List Iv} {f : FnI} {s : SUs} (h : Pr i = some f) (he : errS f.body = some s) : callF Pr G D L (k + 1) i ivs = errR (fun _ g _ env => sus (callF Pr G D L k) (setG G g) D (fun _ => false) s env) f.ns ivs := by
  simp only [callF, h, he]
end G
namespace G
open PySem PySem.Spec PyProof.Rows L2

/-! # ratios, plainly -/
def rt (q : Rat) : T := .tup [.int q.num, .int (q.den : Int)]
/-- so many bits above and below -/
def Rsz (q : Rat) (n : Nat) : Prop := q.num.natAbs < 2 ^ n ∧ q.den < 2 ^ n
theorem Rsz.mono {q : Rat} {n m : Nat} (h : Rsz q n) (hm : n ≤ m) : Rsz q m := ⟨Nat.lt_of_lt_of_le h.1 (Nat.pow_le_pow_right (by decide) hm), Nat.lt_of_lt_of_le h.2 (Nat.pow_le_pow_right (by decide) hm)⟩
theorem log_lt {a n : Nat} (h : a < 2 ^ n) (hn : 0 < n) : a.log2 < n := by
  by_cases ha : a = 0
  · subst ha; simpa using hn
  · exact (Nat.log2_lt ha).mpr h
theorem natAbs_lt_mul {a b : Int} {n m : Nat} (ha : a.natAbs < 2 ^ n) (hb : b.natAbs < 2 ^ m) : (a * b).natAbs < 2 ^ (n + m) := by
  rw [Int.natAbs_mul, Nat.pow_add]
  exact Nat.mul_lt_mul'' ha hb
theorem nat_lt_mul {a b : Nat} {n m : Nat} (ha : a < 2 ^ n) (hb : b < 2 ^ m) : a * b < 2 ^ (n + m) := by
  rw [Nat.pow_add]
  exact Nat.mul_lt_mul'' ha hb
theorem natAbs_lt_add {a b : Int} {n : Nat} (ha : a.natAbs < 2 ^ n) (hb : b.natAbs < 2 ^ n) : (a + b).natAbs < 2 ^ (n + 1) := by
  rw [Nat.pow_succ]
  omega
theorem nat_lt_add {a b n : Nat} (ha : a < 2 ^ n) (hb : b < 2 ^ n) : a + b < 2 ^ (n + 1) := by
  rw [Nat.pow_succ]
  omega
theorem mulOk_sz {a b : Int} {n m : Nat} (ha : a.natAbs < 2 ^ n) (hb : b.natAbs < 2 ^ m) (hn : 0 < n) (hm : 0 < m) (h : n + m ≤ 1000000) : mulOk a b = true := by
  have h1 := log_lt ha hn
  have h2 := log_lt hb hm
  unfold mulOk
  rw [Bool.or_eq_true, decide_eq_true_eq]
  right
  omega
theorem divInt_eq {n d : Int} (hd : 0 < d) : (Rat.divInt n d).num = n / (Int.gcd n d : Nat) ∧ ((Rat.divInt n d).den : Int) = d / (Int.gcd n d : Nat) := by
  rw [Rat.num_divInt, Rat.den_divInt, if_neg (by omega), Int.sign_eq_one_of_pos hd, Int.one_mul, Int.gcd_comm d n]
  refine ⟨rfl, ?_⟩
  rw [Int.natCast_ediv]
  congr 1
  omega
theorem divInt_sz {n d : Int} {m : Nat} (hd : d ≠ 0) (hn : n.natAbs < 2 ^ m) (hm : d.natAbs < 2 ^ m) : Rsz (Rat.divInt n d) m := by
  constructor
  · rw [Rat.num_divInt]
    refine Nat.lt_of_le_of_lt ?_ hn
    rw [Int.natAbs_ediv_of_dvd (Int.dvd_trans (Int.gcd_dvd_right ..) (Int.dvd_mul_left ..)), Int.natAbs_mul]
    refine Nat.le_trans (Nat.div_le_self _ _) ?_
    have : d.sign.natAbs ≤ 1 := by
      rcases Int.lt_trichotomy d 0 with h | h | h
      · rw [Int.sign_eq_neg_one_of_neg h]; decide
      · exact absurd h hd
      · rw [Int.sign_eq_one_of_pos h]; decide
    calc d.sign.natAbs * n.natAbs ≤ 1 * n.natAbs := Nat.mul_le_mul_right _ this
      _ = n.natAbs := Nat.one_mul _
  · rw [Rat.den_divInt, if_neg hd]
    exact Nat.lt_of_le_of_lt (Nat.div_le_self _ _) hm
theorem add_divInt (a b : Rat) : a + b = Rat.divInt (a.num * b.den + b.num * a.den) (a.den * b.den) := by
  rw [Rat.add_def', ← Int.natCast_mul, ← Rat.divInt_ofNat]
theorem mul_divInt (a b : Rat) : a * b = Rat.divInt (a.num * b.num) (a.den * b.den) := by
  rw [Rat.mul_def', ← Int.natCast_mul, ← Rat.divInt_ofNat]
theorem den_pos' (q : Rat) : (0 : Int) < q.den := by
  have := q.den_pos
  omega
theorem add_sz {a b : Rat} {n m : Nat} (ha : Rsz a n) (hb : Rsz b m) : Rsz (a + b) (n + m + 1) := by
  rw [add_divInt]
  have h1 : (a.num * b.den).natAbs < 2 ^ (n + m) := natAbs_lt_mul ha.1 (by simpa using hb.2)
  have h2 : (b.num * a.den).natAbs < 2 ^ (n + m) := by
    rw [Nat.add_comm]; exact natAbs_lt_mul hb.1 (by simpa using ha.2)
  have h3 : ((a.den : Int) * b.den).natAbs < 2 ^ (n + m) := natAbs_lt_mul (by simpa using ha.2) (by simpa using hb.2)
  have hp : (a.den : Int) * b.den ≠ 0 := by
    have := Int.mul_pos (den_pos' a) (den_pos' b)
    omega
  exact divInt_sz hp (natAbs_lt_add h1 h2) (Nat.lt_of_lt_of_le h3 (Nat.pow_le_pow_right (by decide) (by omega)))
theorem mul_sz {a b : Rat} {n m : Nat} (ha : Rsz a n) (hb : Rsz b m) : Rsz (a * b) (n + m) := by
  rw [mul_divInt]
  have h3 : ((a.den : Int) * b.den).natAbs < 2 ^ (n + m) := natAbs_lt_mul (by simpa using ha.2) (by simpa using hb.2)
  have hp : (a.den : Int) * b.den ≠ 0 := by
    have := Int.mul_pos (den_pos' a) (den_pos' b)
    omega
  exact divInt_sz hp (natAbs_lt_mul ha.1 hb.1) h3
theorem divInt_flip (n d : Int) : Rat.divInt n d = Rat.divInt (-n) (-d) := by
  rw [Rat.divInt_neg', Int.neg_neg]
@[simp] theorem eqR_int (i j : Int) : eqR (.int i) (.int j) = some (decide (i = j)) := by
  have e : eqR (.int i) (.int j) = some (decide (V.int i = V.int j)) := rfl
  rw [e]
  congr 1
  rw [Bool.eq_iff_iff]; simp
/-! ## the walk of Euclid -/
def eucl : Nat → Nat × Nat → Nat × Nat
  | 0, p => p
  | n + 1, p => eucl n (if p.2 ≠ 0 then (p.2, p.1 % p.2) else p)
theorem eucl_zero : ∀ (n a : Nat), eucl n (a, 0) = (a, 0)
  | 0, _ => rfl
  | n + 1, a => by
    show eucl n (if (a, 0).2 ≠ 0 then _ else (a, 0)) = _
    rw [if_neg (by simp)]
    exact eucl_zero n a
theorem eucl_gcd : ∀ (k n a b : Nat), b < 2 ^ k → 2 * k ≤ n → eucl n (a, b) = (Nat.gcd a b, 0)
  | 0, n, a, b, hb, _ => by
    have : b = 0 := by simpa using hb
    subst this
    rw [eucl_zero, Nat.gcd_zero_right]
  | k + 1, n, a, b, hb, hn => by
    match n, hn with
    | n + 2, hn =>
      by_cases h : b = 0
      · subst h; rw [eucl_zero, Nat.gcd_zero_right]
      · show eucl n (if (if (a, b).2 ≠ 0 then _ else _ : Nat × Nat).2 ≠ 0 then _ else _) = _
        rw [if_pos (show (a, b).2 ≠ 0 from h)]
        by_cases h2 : a % b = 0
        · rw [if_neg (by simpa using h2)]
          show eucl n (b, a % b) = _
          rw [h2, eucl_zero, Nat.gcd_comm a b, Nat.gcd_rec b a, h2, Nat.gcd_zero_left]
        · rw [if_pos (show (b, a % b).2 ≠ 0 from h2)]
          show eucl n (a % b, b % (a % b)) = _
          have h3 : a % b < b := Nat.mod_lt _ (by omega)
          have h4 : b % (a % b) < a % b := Nat.mod_lt _ (by omega)
          have h5 : b % (a % b) + (a % b) ≤ b := by
            have := Nat.div_add_mod b (a % b)
            have h6 : 1 ≤ b / (a % b) := (Nat.one_le_div_iff (by omega)).mpr (by omega)
            have h7 : (a % b) * 1 ≤ (a % b) * (b / (a % b)) := Nat.mul_le_mul_left _ h6
            omega
          rw [eucl_gcd k n (a % b) (b % (a % b)) (by rw [Nat.pow_succ] at hb; omega) (by omega)]
          have e1 : (a % b).gcd (b % (a % b)) = a.gcd b := by rw [Nat.gcd_comm, ← Nat.gcd_rec, ← Nat.gcd_rec, Nat.gcd_comm]
          rw [e1]
end G
namespace G
open PySem PySem.Spec PyProof.Rows L2

/-! # data that repr takes: how deep, and how much -/
theorem fitR_up : ∀ (k : Nat) (t : T), fitR k t = true → fitR (k + 1) t = true := by
  intro k
  induction k with
  | zero => intro t h; cases t <;> simp [fitR] at h ⊢ <;> exact h
  | succ k ih =>
    intro t h
    cases t with
    | lst xs => simp only [fitR, List.all_eq_true] at h ⊢; exact fun x hx => ih x (h x hx)
    | tup xs => simp only [fitR, List.all_eq_true] at h ⊢; exact fun x hx => ih x (h x hx)
    | dic xs => simp only [fitR, List.all_eq_true, Bool.and_eq_true] at h ⊢; exact fun x hx => ⟨(h x hx).1, ih x.2 (h x hx).2⟩
    | rlst xs => simp [fitR] at h
    | adr a => simp [fitR] at h
    | obj n a => simp [fitR] at h
    | str x => simpa [fitR] using h
    | _ => rfl
theorem toDR_up : ∀ (k : Nat) (t : T), fitR k t = true → toD (k + 1) t = toD k t := by
  intro k
  induction k with
  | zero => intro t h; cases t <;> simp [fitR, toD] at h ⊢
  | succ k ih =>
    intro t h
    cases t with
    | lst xs => simp only [fitR, List.all_eq_true] at h; simp only [toD]; exact congrArg _ (List.map_congr_left fun x hx => ih x (h x hx))
    | tup xs => simp only [fitR, List.all_eq_true] at h; simp only [toD]; exact congrArg _ (List.map_congr_left fun x hx => ih x (h x hx))
    | dic xs => simp only [fitR, List.all_eq_true, Bool.and_eq_true] at h; simp only [toD]; exact congrArg _ (List.map_congr_left fun x hx => by rw [ih x.2 (h x hx).2])
    | rlst xs => simp [fitR] at h
    | _ => rfl
structure Rp (B k n : Nat) (t : T) : Prop where
  fit : fitR k t = true
  shw : (toD k t).showable = true
  lvs : (toD k t).leavesShort B = true
  wgt : (toD k t).weight ≤ n
theorem Rp.mono {B k n m : Nat} {t : T} (h : Rp B k n t) (hm : n ≤ m) : Rp B k m t := ⟨h.fit, h.shw, h.lvs, Nat.le_trans h.wgt hm⟩
theorem rp_str {B k : Nat} {s : Str} (h : PyData.strOk s = true) : Rp B k s.length (.str s) := by
  have e : toD k (.str s) = .str s := by cases k <;> rfl
  refine ⟨by cases k <;> exact h, by rw [e]; rfl, ?_, by rw [e]; exact Nat.le_refl _⟩
  rw [e]
  unfold PyData.strOk at h
  rw [← Array.all_toList] at h
  simp only [PyData.leavesShort, List.all_eq_true, decide_eq_true_eq] at h ⊢
  intro c hc
  have := h c hc
  omega
theorem rp_int {B k b : Nat} {i : Int} (hb : 0 < b) (h : i.natAbs < 2 ^ b) (hB : b < B) (hB2 : B ≤ 1900) : Rp B k b (.int i) := by
  have e : toD k (.int i) = .int i := by cases k <;> rfl
  have hl := log_lt h hb
  refine ⟨by cases k <;> rfl, ?_, ?_, ?_⟩
  · rw [e]; simp only [PyData.showable, decide_eq_true_eq]; omega
  · rw [e]
    simp only [PyData.leavesShort, decide_eq_true_eq, PyData.shown]
    have h1 := int_text_length_le (a := i) hb hl
    have h3 : (Str.ofString (toString i)).length = (toString i).length := PySem.ofString_length _
    have h4 : (Str.ofString (toString i)).length ≤ B := by omega
    simpa using h4
  · rw [e]
    simp only [PyData.weight]
    split <;> omega
theorem rp_tup {B k n : Nat} {xs : List T} (h : ∀ x ∈ xs, Rp B k n x) : Rp B (k + 1) ((n + 1) * xs.length) (.tup xs) ∧ Rp B (k + 1) ((n + 1) * xs.length) (.lst xs) := by
  have key : xs.all (fitR k) = true ∧ PyData.showableAll (xs.map (toD k)) = true ∧ PyData.leavesShortAll B (xs.map (toD k)) = true ∧ PyData.weightAll (xs.map (toD k)) ≤ (n + 1) * xs.length := by
    induction xs with
    | nil => exact ⟨rfl, rfl, rfl, Nat.le_refl _⟩
    | cons x xs ih =>
      have h1 := h x (by simp)
      obtain ⟨a, b, c, d⟩ := ih fun y hy => h y (by simp [hy])
      refine ⟨by simp only [List.all_cons, h1.fit, a, Bool.and_self], by simp only [List.map_cons, PyData.showableAll, h1.shw, b, Bool.and_self], by simp only [List.map_cons, PyData.leavesShortAll, h1.lvs, c, Bool.and_self], ?_⟩
      have := h1.wgt
      simp only [List.map_cons, PyData.weightAll, List.length_cons, Nat.mul_add, Nat.mul_one]
      omega
  obtain ⟨a, b, c, d⟩ := key
  exact ⟨⟨a, by simpa only [toD, PyData.showable] using b, by simpa only [toD, PyData.leavesShort] using c, by simpa only [toD, PyData.weight] using d⟩, ⟨a, by simpa only [toD, PyData.showable] using b, by simpa only [toD, PyData.leavesShort] using c, by simpa only [toD, PyData.weight] using d⟩⟩
theorem rp_dic {B k n : Nat} {kvs : List (Key × T)} (h : ∀ kv ∈ kvs, Rp B k n kv.2 ∧ ∃ s : Str, kv.1 = .inr s ∧ PyData.strOk s = true ∧ s.length ≤ n) : Rp B (k + 1) ((2 * n + 2) * kvs.length) (.dic kvs) := by
  have key : (kvs.all fun kv => keyFit kv.1 && fitR k kv.2) = true ∧ PyData.showableKv (kvs.map fun kv => (keyD kv.1, toD k kv.2)) = true ∧ PyData.leavesShortKv B (kvs.map fun kv => (keyD kv.1, toD k kv.2)) = true ∧ PyData.weightKv (kvs.map fun kv => (keyD kv.1, toD k kv.2)) ≤ (2 * n + 2) * kvs.length := by
    induction kvs with
    | nil => exact ⟨rfl, rfl, rfl, Nat.le_refl _⟩
    | cons x xs ih =>
      obtain ⟨h1, s, hs, hs2, hs3⟩ := h x (by simp)
      obtain ⟨a, b, c, d⟩ := ih fun y hy => h y (by simp [hy])
      obtain ⟨ky, tv⟩ := x
      simp only at hs h1
      subst hs
      have e := rp_str (B := B) (k := 0) hs2
      have e2 : toD 0 (.str s) = keyD (.inr s) := rfl
      have h2 := e.shw
      have h3 := e.lvs
      have h4 := e.wgt
      rw [e2] at h2 h3 h4
      refine ⟨by rw [List.all_cons, a, Bool.and_true]; show (PyData.strOk s && fitR k tv) = true; rw [hs2, h1.fit]; rfl, by simp only [List.map_cons, PyData.showableKv, h2, h1.shw, b, Bool.and_self], by simp only [List.map_cons, PyData.leavesShortKv, h3, h1.lvs, c, Bool.and_self], ?_⟩
      have := h1.wgt
      simp only [List.map_cons, PyData.weightKv, List.length_cons, Nat.mul_add, Nat.mul_one]
      omega
  obtain ⟨a, b, c, d⟩ := key
  exact ⟨a, by simpa only [toD, PyData.showable] using b, by simpa only [toD, PyData.leavesShort] using c, by simpa only [toD, PyData.weight] using d⟩
theorem rp_up {B k n : Nat} {t : T} (h : Rp B k n t) : Rp B (k + 1) n t := by
  have e := toDR_up k t h.fit
  exact ⟨fitR_up k t h.fit, by rw [e]; exact h.shw, by rw [e]; exact h.lvs, by rw [e]; exact h.wgt⟩
theorem rp_to {B k n : Nat} {t : T} (h : Rp B k n t) : ∀ {j : Nat}, k ≤ j → Rp B j n t := by
  intro j hj
  induction hj with
  | refl => exact h
  | step _ ih => exact rp_up ih
theorem repr_ok {B n : Nat} {t : T} (h : Rp B 40 n t) (hs : isSq t = true) (hB : 8 ≤ B) (hn : (B + 2) * n + B ≤ 16000000) : ∃ s, reprT t = some s := by
  have h1 := PyData.shown_le B hB _ h.lvs
  have h2 := h.wgt
  have h3 : (toD 40 t).shown.length ≤ sizeLine := by
    rw [sizeLine_eq]
    have : (B + 2) * (toD 40 t).weight ≤ (B + 2) * n := Nat.mul_le_mul_left _ h2
    omega
  refine ⟨(toD 40 t).shown, ?_⟩
  unfold reprT
  rw [hs, h.fit, h.shw, decide_eq_true h3]
  rfl
end G
namespace G
open PySem PySem.Spec PyProof.Rows L2

/-! # sorting texts -/
def slt (a b : Str) : Prop := a.cps.toList < b.cps.toList
instance (a b : Str) : Decidable (slt a b) := inferInstanceAs (Decidable (a.cps.toList < b.cps.toList))
theorem slt_trans_le {x y z : Str} (h : slt x y) (h2 : ¬ slt z y) : slt x z := by
  unfold slt at *
  apply Classical.byContradiction
  intro h3
  exact h2 (List.lt_of_le_of_lt (List.not_lt.mp h3) h)
theorem slt_le_trans {x y z : Str} (h : ¬ slt y x) (h2 : ¬ slt z y) : ¬ slt z x := by
  unfold slt at *
  exact List.not_lt.mpr (List.le_trans (List.not_lt.mp h) (List.not_lt.mp h2))
theorem slt_asymm {x y : Str} (h : slt x y) : ¬ slt y x := by
  unfold slt at *
  exact List.lt_asymm h
theorem insS_eq (x y : Str) (l : List Str) : insS x (y :: l) = if slt x y then x :: y :: l else y :: insS x l := rfl
theorem insS_all {x : Str} : ∀ {l : List Str}, (∀ z ∈ l, slt x z) → insS x l = x :: l
  | [], _ => rfl
  | y :: l, h => by rw [insS_eq, if_pos (h y (by simp))]
theorem insS_in {x z : Str} : ∀ {l : List Str}, z ∈ insS x l → z = x ∨ z ∈ l
  | [], h => by simpa [insS] using h
  | y :: l, h => by
    rw [insS_eq] at h
    split at h
    · simpa using h
    · rcases List.mem_cons.mp h with h | h
      · exact .inr (by simp [h])
      · exact (insS_in h).imp id fun q => by simp [q]
def SrtS (l : List Str) : Prop := l.Pairwise fun a b => ¬ slt b a
theorem insS_st {x : Str} : ∀ {l : List Str}, SrtS l → SrtS (insS x l)
  | [], _ => List.pairwise_singleton ..
  | y :: l, h => by
    obtain ⟨h1, h2⟩ := List.pairwise_cons.mp h
    rw [insS_eq]
    split
    · rename_i hxy
      refine List.pairwise_cons.mpr ⟨fun z hz => ?_, h⟩
      rcases List.mem_cons.mp hz with rfl | hz
      · exact slt_asymm hxy
      · exact slt_asymm (slt_trans_le hxy (h1 z hz))
    · rename_i hxy
      refine List.pairwise_cons.mpr ⟨fun z hz => ?_, insS_st h2⟩
      rcases insS_in hz with rfl | hz
      · exact hxy
      · exact h1 z hz
theorem sortS_st : ∀ l : List Str, SrtS (sortS l)
  | [] => List.Pairwise.nil
  | x :: l => insS_st (sortS_st l)
theorem insS_filter (p : Str → Bool) (x : Str) : ∀ {l : List Str}, SrtS l → (insS x l).filter p = if p x = true then insS x (l.filter p) else l.filter p
  | [], _ => by
    show [x].filter p = if p x = true then [x] else []
    by_cases h : p x = true <;> simp [h]
  | y :: l, h => by
    obtain ⟨h1, h2⟩ := List.pairwise_cons.mp h
    rw [insS_eq]
    split
    · rename_i hxy
      by_cases hp : p x = true
      · rw [if_pos hp, List.filter_cons, if_pos hp, insS_all]
        intro z hz
        rcases List.mem_cons.mp (List.mem_filter.mp hz).1 with rfl | hz
        · exact hxy
        · exact slt_trans_le hxy (h1 z hz)
      · rw [if_neg hp, List.filter_cons, if_neg hp]
    · rename_i hxy
      rw [List.filter_cons, insS_filter p x h2]
      by_cases hy : p y = true
      · simp only [hy, if_true, List.filter_cons]
        split
        · rw [insS_eq, if_neg hxy]
        · rfl
      · simp only [hy, List.filter_cons]
        rfl
theorem sortS_filter (p : Str → Bool) : ∀ l : List Str, sortS (l.filter p) = (sortS l).filter p
  | [] => rfl
  | x :: l => by
    show _ = (insS x (sortS l)).filter p
    rw [insS_filter p x (sortS_st l), ← sortS_filter p l, List.filter_cons]
    split <;> rfl
/-! # rows of rows -/
theorem flatMap_len_le {α β : Type} {g : α → List β} {c : Nat} : ∀ {xs : List α}, (∀ x ∈ xs, (g x).length ≤ c) → (xs.flatMap g).length ≤ c * xs.length
  | [], _ => by simp
  | x :: xs, h => by
    have h1 := h x (by simp)
    have h2 := flatMap_len_le (xs := xs) fun y hy => h y (by simp [hy])
    rw [List.flatMap_cons, List.length_append, List.length_cons, Nat.mul_add, Nat.mul_one]
    omega
section
variable {fx : Nat → Bool}
/-- a loop that puts g x behind a list -/
theorem forL_app {α : Type} {tg : Tgt} {body : Env → Out Sg} {f : α → T} (I : List T → Env → Prop) (g : α → List T) (N : Nat) : ∀ {xs : List α} {acc : List T} {e : Env},
    (∀ x ∈ xs, ∀ acc e, I acc e → acc.length + (g x).length ≤ N → ∃ e1 e2, bindT fx tg (f x) e = some e1 ∧ body e1 = .ok .nxt e2 ∧ I (acc ++ g x) e2) → I acc e → acc.length + (xs.flatMap g).length ≤ N → ∃ e', forL fx tg body (xs.map f) e = .ok .nxt e' ∧ I (acc ++ xs.flatMap g) e'
  | [], acc, e, _, he, _ => ⟨e, rfl, by simpa using he⟩
  | x :: xs, acc, e, h, he, hN => by
    rw [List.flatMap_cons, List.length_append] at hN
    obtain ⟨e1, e2, h1, h2, h3⟩ := h x (by simp) acc e he (by omega)
    obtain ⟨e3, h4, h5⟩ := forL_app I g N (xs := xs) (acc := acc ++ g x) (fun u hu => h u (by simp [hu])) h3 (by rw [List.length_append]; omega)
    exact ⟨e3, by simp only [List.map_cons, forL, h1, h2, s_bind_ok, h4], by simpa using h5⟩
end
theorem flatMap_range {α β : Type} (d : α) (xs : List α) (g : α → List β) : (List.range xs.length).flatMap (fun i => g (xs.getD i d)) = xs.flatMap g := by
  have h : (List.range xs.length).map (fun i => xs.getD i d) = xs := by
    apply List.ext_getElem
    · simp
    · intro i h1 h2
      simp at h1
      simp [h1]
  conv => rhs; rw [← h]
  rw [List.flatMap_map]
end G
namespace G
open PySem L2
def b_error_words_349 : ISs := ISs.cons (IS.su (SUs.cons (SU.ite (IB.val (IE.eisin (IE.var 0) ["BadText"])) (SUs.cons (SU.ret (IE.tup (IEs.cons (IE.str "BadText") (IEs.cons (IE.efld (IE.var 0) "line") (IEs.cons (IE.efld (IE.var 0) "fault") IEs.nil))))) SUs.nil) SUs.nil) (SUs.cons (SU.ite (IB.val (IE.eisin (IE.var 0) ["BadProgram"])) (SUs.cons (SU.ret (IE.tup (IEs.cons (IE.str "BadProgram") (IEs.cons (IE.efld (IE.var 0) "line") (IEs.cons (IE.efld (IE.var 0) "fault") IEs.nil))))) SUs.nil) SUs.nil) (SUs.cons (SU.ite (IB.val (IE.eisin (IE.var 0) ["BadShape"])) (SUs.cons (SU.ret (IE.tup (IEs.cons (IE.str "BadShape") (IEs.cons (IE.efld (IE.var 0) "line") (IEs.cons (IE.efld (IE.var 0) "fault") IEs.nil))))) SUs.nil) SUs.nil) (SUs.cons (SU.ite (IB.val (IE.eisin (IE.var 0) ["TooMany"])) (SUs.cons (SU.ret (IE.tup (IEs.cons (IE.str "TooMany") (IEs.cons (IE.efld (IE.var 0) "what") (IEs.cons (IE.efld (IE.var 0) "limit") IEs.nil))))) SUs.nil) SUs.nil) (SUs.cons (SU.ite (IB.val (IE.eisin (IE.var 0) ["BadPaper"])) (SUs.cons (SU.ret (IE.tup (IEs.cons (IE.str "BadPaper") (IEs.cons (IE.efld (IE.var 0) "place") (IEs.cons (IE.efld (IE.var 0) "fault") IEs.nil))))) SUs.nil) SUs.nil) (SUs.cons (SU.ite (IB.val (IE.eisin (IE.var 0) ["BadQuestion"])) (SUs.cons (SU.ret (IE.tup (IEs.cons (IE.str "BadQuestion") (IEs.cons (IE.efld (IE.var 0) "fault") IEs.nil)))) SUs.nil) SUs.nil) (SUs.cons (SU.ite (IB.val (IE.eisin (IE.var 0) ["BadData"])) (SUs.cons (SU.ret (IE.tup (IEs.cons (IE.str "BadData") (IEs.cons (IE.efld (IE.var 0) "place") IEs.nil)))) SUs.nil) SUs.nil) (SUs.cons (SU.ret (IE.tup (IEs.cons (IE.str "HoldError") IEs.nil))) SUs.nil))))))))) ISs.nil
def b_lines_of : ISs := ISs.cons (IS.ret (IE.bi BI.tuple (IEs.cons (IE.met1 Me1.split (IE.var 0) (IE.str "\n")) IEs.nil))) ISs.nil
def s_name_end_1 : ISs := ISs.cons (IS.asg 3 (IE.ix (IE.var 0) (IE.var 2))) (ISs.cons (IS.ite (IB.or (IB.val (IE.cmp CmpOp.In (IE.var 3) (IE.glob 3))) (IB.val (IE.cmp CmpOp.In (IE.var 3) (IE.glob 4)))) (ISs.cons (IS.asg 2 (IE.bin Operator.Add (IE.var 2) (IE.int 1))) ISs.nil) (ISs.cons (IS.ite (IB.and (IB.val (IE.cmp CmpOp.Eq (IE.var 3) (IE.str "."))) (IB.and (IB.val (IE.cmp CmpOp.Lt (IE.bin Operator.Add (IE.var 2) (IE.int 1)) (IE.bi BI.len (IEs.cons (IE.var 0) IEs.nil)))) (IB.or (IB.val (IE.cmp CmpOp.In (IE.ix (IE.var 0) (IE.bin Operator.Add (IE.var 2) (IE.int 1))) (IE.glob 3))) (IB.val (IE.cmp CmpOp.In (IE.ix (IE.var 0) (IE.bin Operator.Add (IE.var 2) (IE.int 1))) (IE.glob 4)))))) (ISs.cons (IS.asg 2 (IE.bin Operator.Add (IE.var 2) (IE.int 2))) ISs.nil) (ISs.cons (IS.ret (IE.var 2)) ISs.nil)) ISs.nil)) ISs.nil)
def f_name_end_1 : IS := IS.while (IB.val (IE.cmp CmpOp.Lt (IE.var 2) (IE.bi BI.len (IEs.cons (IE.var 0) IEs.nil)))) s_name_end_1
def b_name_end : ISs := ISs.cons (IS.asg 2 (IE.bin Operator.Add (IE.var 1) (IE.int 1))) (ISs.cons f_name_end_1 (ISs.cons (IS.ret (IE.var 2)) ISs.nil))
def s_number_end_1 : ISs := ISs.cons (IS.asg 2 (IE.bin Operator.Add (IE.var 2) (IE.int 1))) ISs.nil
def f_number_end_1 : IS := IS.while (IB.and (IB.val (IE.cmp CmpOp.Lt (IE.var 2) (IE.bi BI.len (IEs.cons (IE.var 0) IEs.nil)))) (IB.val (IE.cmp CmpOp.In (IE.ix (IE.var 0) (IE.var 2)) (IE.glob 4)))) s_number_end_1
def b_number_end : ISs := ISs.cons (IS.asg 2 (IE.var 1)) (ISs.cons f_number_end_1 (ISs.cons (IS.ret (IE.var 2)) ISs.nil))
def s_sign_at_1 : ISs := ISs.cons (IS.ite (IB.val (IE.cmp CmpOp.Eq (IE.sl (IE.var 0) (IO.some (IE.var 1)) (IO.some (IE.bin Operator.Add (IE.var 1) (IE.bi BI.len (IEs.cons (IE.var 2) IEs.nil))))) (IE.var 2))) (ISs.cons (IS.ret (IE.var 2)) ISs.nil) ISs.nil) ISs.nil
def f_sign_at_1 : IS := IS.for (Tgt.name 2) (Src.seq (IE.glob 2)) s_sign_at_1
def b_sign_at : ISs := ISs.cons f_sign_at_1 (ISs.cons (IS.ret (IE.str "")) ISs.nil)
def s_words_of_140_1 : ISs := ISs.cons (IS.asg 4 (IE.ix (IE.var 0) (IE.var 3))) (ISs.cons (IS.ite (IB.val (IE.cmp CmpOp.Eq (IE.var 4) (IE.str " "))) (ISs.cons (IS.asg 3 (IE.bin Operator.Add (IE.var 3) (IE.int 1))) ISs.nil) (ISs.cons (IS.ite (IB.val (IE.cmp CmpOp.In (IE.var 4) (IE.glob 3))) (ISs.cons (IS.asg 5 (IE.call 117 (IEs.cons (IE.var 0) (IEs.cons (IE.var 3) IEs.nil)))) (ISs.cons (IS.mut Mu.append 2 (IEs.cons (IE.sl (IE.var 0) (IO.some (IE.var 3)) (IO.some (IE.var 5))) IEs.nil)) (ISs.cons (IS.asg 3 (IE.var 5)) ISs.nil))) (ISs.cons (IS.ite (IB.val (IE.cmp CmpOp.In (IE.var 4) (IE.glob 4))) (ISs.cons (IS.asg 5 (IE.call 118 (IEs.cons (IE.var 0) (IEs.cons (IE.var 3) IEs.nil)))) (ISs.cons (IS.mut Mu.append 2 (IEs.cons (IE.sl (IE.var 0) (IO.some (IE.var 3)) (IO.some (IE.var 5))) IEs.nil)) (ISs.cons (IS.asg 3 (IE.var 5)) ISs.nil))) (ISs.cons (IS.asg 6 (IE.call 119 (IEs.cons (IE.var 0) (IEs.cons (IE.var 3) IEs.nil)))) (ISs.cons (IS.ite (IB.val (IE.cmp CmpOp.Eq (IE.var 6) (IE.str ""))) (ISs.cons (IS.raiseX "BadText" ["line", "fault"] (IE.fstr (IEs.cons (IE.str "line ") (IEs.cons (IE.var 1) (IEs.cons (IE.str ": ") (IEs.cons (IE.var 2) IEs.nil))))) (IEs.cons (IE.var 1) (IEs.cons (IE.str "sign") IEs.nil))) ISs.nil) ISs.nil) (ISs.cons (IS.mut Mu.append 2 (IEs.cons (IE.mov 6) IEs.nil)) (ISs.cons (IS.asg 3 (IE.bin Operator.Add (IE.var 3) (IE.bi BI.len (IEs.cons (IE.var 6) IEs.nil)))) ISs.nil))))) ISs.nil)) ISs.nil)) ISs.nil)
def f_words_of_140_1 : IS := IS.while (IB.val (IE.cmp CmpOp.Lt (IE.var 3) (IE.bi BI.len (IEs.cons (IE.var 0) IEs.nil)))) s_words_of_140_1
def b_words_of_140 : ISs := ISs.cons (IS.asg 2 (IE.lst IEs.nil)) (ISs.cons (IS.asg 3 (IE.int 0)) (ISs.cons f_words_of_140_1 (ISs.cons (IS.ite (IB.not (IB.val (IE.var 2))) (ISs.cons (IS.raiseX "BadText" ["line", "fault"] (IE.fstr (IEs.cons (IE.str "line ") (IEs.cons (IE.var 1) (IEs.cons (IE.str ": ") (IEs.cons (IE.var 2) IEs.nil))))) (IEs.cons (IE.var 1) (IEs.cons (IE.str "empty") IEs.nil))) ISs.nil) ISs.nil) (ISs.cons (IS.ret (IE.bi BI.tuple (IEs.cons (IE.var 2) IEs.nil))) ISs.nil))))
def b_is_name : ISs := ISs.cons (IS.ret (IE.and (IE.cmp CmpOp.NotEq (IE.var 0) (IE.str "")) (IE.cmp CmpOp.In (IE.ix (IE.var 0) (IE.int 0)) (IE.glob 3)))) ISs.nil
def b_is_number : ISs := ISs.cons (IS.ret (IE.and (IE.cmp CmpOp.NotEq (IE.var 0) (IE.str "")) (IE.cmp CmpOp.In (IE.ix (IE.var 0) (IE.int 0)) (IE.glob 4)))) ISs.nil
def b_law_mix : ISs := ISs.cons (IS.asg 2 (IE.bin Operator.Mod (IE.bi BI.int (IEs.cons (IE.bin Operator.Add (IE.bin Operator.Mult (IE.bin Operator.Add (IE.var 0) (IE.int 11)) (IE.int 6364136223846793005)) (IE.bin Operator.Mult (IE.bin Operator.Add (IE.var 1) (IE.int 3)) (IE.int 1442695040888963407))) IEs.nil)) (IE.int 18446744073709551557))) (ISs.cons (IS.asg 3 (IE.bin Operator.Mod (IE.bi BI.int (IEs.cons (IE.bin Operator.Add (IE.bin Operator.Mult (IE.var 2) (IE.bin Operator.Add (IE.bin Operator.Add (IE.var 2) (IE.bin Operator.Mult (IE.int 2) (IE.var 1))) (IE.int 5))) (IE.int 7046029254386353131)) IEs.nil)) (IE.int 18446744073709551533))) (ISs.cons (IS.ret (IE.bin Operator.FloorDiv (IE.var 3) (IE.int 65536))) ISs.nil))
def e_law_jar_1 : IE := IE.lc (Src.seq (IE.sl (IE.var 0) IO.none (IO.some (IE.int 63)))) (Tgt.name 4) IBO.none (IE.bi BI.int (IEs.cons (IE.var 4) IEs.nil)) [("cell", 4)]
def s_law_jar_2 : ISs := ISs.cons (IS.asg 3 (IE.bin Operator.Mod (IE.bi BI.int (IEs.cons (IE.bin Operator.Add (IE.bin Operator.Mult (IE.var 3) (IE.int 31)) (IE.bi BI.abs (IEs.cons (IE.var 4) IEs.nil))) IEs.nil)) (IE.int 1000003))) ISs.nil
def f_law_jar_2 : IS := IS.for (Tgt.name 4) (Src.seq (IE.var 2)) s_law_jar_2
def b_law_jar : ISs := ISs.cons (IS.asg 2 e_law_jar_1) (ISs.cons (IS.asg 3 (IE.bin Operator.Add (IE.int 17) (IE.bin Operator.Mult (IE.int 7919) (IE.var 1)))) (ISs.cons f_law_jar_2 (ISs.cons (IS.ite (IB.val (IE.cmp CmpOp.GtE (IE.var 1) (IE.bi BI.len (IEs.cons (IE.var 2) IEs.nil)))) (ISs.cons (IS.ret (IE.lst (IEs.cons (IE.int 0) (IEs.cons (IE.int 0) (IEs.cons (IE.mov 3) IEs.nil))))) ISs.nil) ISs.nil) (ISs.cons (IS.asg 5 (IE.bi BI.abs (IEs.cons (IE.ix (IE.var 2) (IE.var 1)) IEs.nil))) (ISs.cons (IS.asg 6 (IE.bin Operator.Add (IE.bin Operator.Mult (IE.int 2) (IE.var 5)) (IE.ifx (IB.val (IE.cmp CmpOp.Lt (IE.ix (IE.var 2) (IE.var 1)) (IE.int 0))) (IE.int 1) (IE.int 0)))) (ISs.cons (IS.ite (IB.val (IE.cmp CmpOp.GtE (IE.var 5) (IE.bin Operator.Pow (IE.int 10) (IE.int 18)))) (ISs.cons (IS.ret (IE.lst (IEs.cons (IE.mov 5) (IEs.cons (IE.int 0) (IEs.cons (IE.mov 6) IEs.nil))))) ISs.nil) ISs.nil) (ISs.cons (IS.ret (IE.lst (IEs.cons (IE.int 0) (IEs.cons (IE.int 0) (IEs.cons (IE.bin Operator.Add (IE.var 6) (IE.bin Operator.Mult (IE.int 1000003) (IE.var 1))) IEs.nil))))) ISs.nil)))))))
def b_law_draw : ISs := ISs.cons (IS.setix 0 (IE.int 1) (IE.bin Operator.Add (IE.ix (IE.var 0) (IE.int 1)) (IE.int 1))) (ISs.cons (IS.ite (IB.val (IE.cmp CmpOp.Gt (IE.ix (IE.var 0) (IE.int 0)) (IE.int 0))) (ISs.cons (IS.asg 2 (IE.bin Operator.Mod (IE.bi BI.int (IEs.cons (IE.ix (IE.var 0) (IE.int 0)) IEs.nil)) (IE.var 1))) (ISs.cons (IS.setix 0 (IE.int 0) (IE.bin Operator.FloorDiv (IE.ix (IE.var 0) (IE.int 0)) (IE.var 1))) (ISs.cons (IS.ret (IE.var 2)) ISs.nil))) ISs.nil) (ISs.cons (IS.ret (IE.bin Operator.Mod (IE.bi BI.int (IEs.cons (IE.call 13 (IEs.cons (IE.ix (IE.var 0) (IE.int 2)) (IEs.cons (IE.ix (IE.var 0) (IE.int 1)) IEs.nil))) IEs.nil)) (IE.var 1))) ISs.nil))
def b_law_between : ISs := ISs.cons (IS.ret (IE.bin Operator.Add (IE.var 1) (IE.call 15 (IEs.cons (IE.var 0) (IEs.cons (IE.bin Operator.Add (IE.bin Operator.Sub (IE.var 2) (IE.var 1)) (IE.int 1)) IEs.nil))))) ISs.nil
def b_law_pick : ISs := ISs.cons (IS.ret (IE.ix (IE.var 1) (IE.call 15 (IEs.cons (IE.var 0) (IEs.cons (IE.bi BI.len (IEs.cons (IE.var 1) IEs.nil)) IEs.nil))))) ISs.nil
def b_law_signs : ISs := ISs.cons (IS.ret (IE.lst (IEs.cons (IE.str ":=") (IEs.cons (IE.str "<=") (IEs.cons (IE.str ">=") (IEs.cons (IE.str "==") (IEs.cons (IE.str "<") (IEs.cons (IE.str ">") (IEs.cons (IE.str "+") (IEs.cons (IE.str "-") (IEs.cons (IE.str "/") (IEs.cons (IE.str "(") (IEs.cons (IE.str ")") (IEs.cons (IE.str ",") (IEs.cons (IE.str "|") (IEs.cons (IE.str ":") IEs.nil)))))))))))))))) ISs.nil
def b_law_apart : ISs := ISs.cons (IS.ite (IB.and (IB.val (IE.cmp CmpOp.NotIn (IE.var 0) (IE.call 123 IEs.nil))) (IB.val (IE.cmp CmpOp.NotIn (IE.var 1) (IE.call 123 IEs.nil)))) (ISs.cons (IS.ret (IE.bl true)) ISs.nil) ISs.nil) (ISs.cons (IS.ret (IE.and (IE.cmp CmpOp.Eq (IE.var 1) (IE.str "==")) (IE.cmp CmpOp.In (IE.var 0) (IE.lst (IEs.cons (IE.str ":") (IEs.cons (IE.str "<") (IEs.cons (IE.str ">") IEs.nil))))))) ISs.nil)
def s_law_spaced_1 : ISs := ISs.cons (IS.ite (IB.val (IE.cmp CmpOp.Gt (IE.var 3) (IE.int 0))) (ISs.cons (IS.asg 4 (IE.call 15 (IEs.cons (IE.var 0) (IEs.cons (IE.int 3) IEs.nil)))) (ISs.cons (IS.ite (IB.and (IB.val (IE.cmp CmpOp.Eq (IE.var 4) (IE.int 0))) (IB.val (IE.call 124 (IEs.cons (IE.ix (IE.var 1) (IE.bin Operator.Sub (IE.var 3) (IE.int 1))) (IEs.cons (IE.ix (IE.var 1) (IE.var 3)) IEs.nil))))) (ISs.cons (IS.asg 4 (IE.int 1)) ISs.nil) ISs.nil) (ISs.cons (IS.asg 2 (IE.bin Operator.Add (IE.var 2) (IE.bin Operator.Mult (IE.str " ") (IE.var 4)))) ISs.nil))) ISs.nil) (ISs.cons (IS.asg 2 (IE.bin Operator.Add (IE.var 2) (IE.ix (IE.var 1) (IE.var 3)))) ISs.nil)
def f_law_spaced_1 : IS := IS.for (Tgt.name 3) (Src.rng1 (IE.bi BI.len (IEs.cons (IE.var 1) IEs.nil))) s_law_spaced_1
def b_law_spaced : ISs := ISs.cons (IS.asg 2 (IE.bin Operator.Mult (IE.str " ") (IE.call 15 (IEs.cons (IE.var 0) (IEs.cons (IE.int 3) IEs.nil))))) (ISs.cons f_law_spaced_1 (ISs.cons (IS.ret (IE.bin Operator.Add (IE.var 2) (IE.bin Operator.Mult (IE.str " ") (IE.call 15 (IEs.cons (IE.var 0) (IEs.cons (IE.int 3) IEs.nil)))))) ISs.nil))
def s_law_name_1 : ISs := ISs.cons (IS.ite (IB.val (IE.cmp CmpOp.Eq (IE.call 15 (IEs.cons (IE.var 0) (IEs.cons (IE.int 8) IEs.nil))) (IE.int 0))) (ISs.cons (IS.asg 2 (IE.bin Operator.Add (IE.var 2) (IE.str "."))) ISs.nil) ISs.nil) (ISs.cons (IS.asg 2 (IE.bin Operator.Add (IE.var 2) (IE.ix (IE.bin Operator.Add (IE.var 1) (IE.str "0123456789")) (IE.call 15 (IEs.cons (IE.var 0) (IEs.cons (IE.int 36) IEs.nil)))))) ISs.nil)
def f_law_name_1 : IS := IS.for (Tgt.name 4) (Src.rng1 (IE.var 3)) s_law_name_1
def b_law_name : ISs := ISs.cons (IS.asg 1 (IE.str "abcdefghijklmnopqrstuvwxyz")) (ISs.cons (IS.asg 2 (IE.ix (IE.var 1) (IE.call 15 (IEs.cons (IE.var 0) (IEs.cons (IE.int 26) IEs.nil))))) (ISs.cons (IS.asg 3 (IE.ifx (IB.val (IE.cmp CmpOp.Gt (IE.call 15 (IEs.cons (IE.var 0) (IEs.cons (IE.int 12) IEs.nil))) (IE.int 0))) (IE.call 15 (IEs.cons (IE.var 0) (IEs.cons (IE.int 4) IEs.nil))) (IE.call 15 (IEs.cons (IE.var 0) (IEs.cons (IE.int 30) IEs.nil))))) (ISs.cons f_law_name_1 (ISs.cons (IS.ret (IE.var 2)) ISs.nil))))
def b_law_bad : ISs := ISs.cons (IS.asg 1 (IE.call 15 (IEs.cons (IE.var 0) (IEs.cons (IE.int 6) IEs.nil)))) (ISs.cons (IS.ite (IB.val (IE.cmp CmpOp.Eq (IE.var 1) (IE.int 0))) (ISs.cons (IS.ret (IE.str " = ")) ISs.nil) ISs.nil) (ISs.cons (IS.ite (IB.val (IE.cmp CmpOp.Eq (IE.var 1) (IE.int 1))) (ISs.cons (IS.ret (IE.call 17 (IEs.cons (IE.var 0) (IEs.cons (IE.lst (IEs.cons (IE.str " .") (IEs.cons (IE.str ". ") (IEs.cons (IE.str "..") IEs.nil)))) IEs.nil)))) ISs.nil) ISs.nil) (ISs.cons (IS.ret (IE.call 17 (IEs.cons (IE.var 0) (IEs.cons (IE.str "!\"#$&'*;?\x40[\\]^_`{}~ABCDEFGHIJKLMNOPQRSTUVWXYZ") IEs.nil)))) ISs.nil)))
def b_law_refusal_350 : ISs := ISs.cons (IS.su (SUs.cons (SU.ite (IB.or (IB.not (IB.val (IE.eisin (IE.var 0) ["BadText", "BadProgram", "BadShape", "TooMany", "BadPaper", "BadQuestion", "BadData"]))) (IB.val (IE.eisin (IE.var 0) ["BadProgram", "BadShape", "BadPaper", "BadQuestion", "BadData"]))) (SUs.cons (SU.ret (IE.tup (IEs.cons (IE.str "refused") (IEs.cons (IE.str "another class") IEs.nil)))) SUs.nil) SUs.nil) (SUs.cons (SU.ite (IB.and (IB.val (IE.eisin (IE.var 0) ["BadText"])) (IB.not (IB.val (IE.eisin (IE.var 0) ["TooMany"])))) (SUs.cons (SU.asg 1 (IE.tup (IEs.cons (IE.str "BadText") (IEs.cons (IE.efld (IE.var 0) "line") (IEs.cons (IE.efld (IE.var 0) "fault") IEs.nil))))) SUs.nil) (SUs.cons (SU.ite (IB.and (IB.val (IE.eisin (IE.var 0) ["TooMany"])) (IB.not (IB.val (IE.eisin (IE.var 0) ["BadText"])))) (SUs.cons (SU.asg 1 (IE.tup (IEs.cons (IE.str "TooMany") (IEs.cons (IE.efld (IE.var 0) "what") (IEs.cons (IE.efld (IE.var 0) "limit") IEs.nil))))) SUs.nil) (SUs.cons (SU.ret (IE.tup (IEs.cons (IE.str "refused") (IEs.cons (IE.str "another class") IEs.nil)))) SUs.nil)) SUs.nil)) (SUs.cons (SU.ite (IB.val (IE.cmp CmpOp.NotEq (IE.ecall 349 (IE.var 0)) (IE.var 1))) (SUs.cons (SU.ret (IE.tup (IEs.cons (IE.str "refused") (IEs.cons (IE.str "other words") IEs.nil)))) SUs.nil) SUs.nil) (SUs.cons (SU.ret (IE.bin Operator.Add (IE.tup (IEs.cons (IE.str "refused") IEs.nil)) (IE.var 1))) SUs.nil))))) ISs.nil
def e_law_word_128_1 : IE := IE.lc (Src.rng1 (IE.bin Operator.Add (IE.int 1) (IE.call 15 (IEs.cons (IE.var 0) (IEs.cons (IE.int 9) IEs.nil))))) (Tgt.name 2) IBO.none (IE.bi BI.str (IEs.cons (IE.call 15 (IEs.cons (IE.var 0) (IEs.cons (IE.int 10) IEs.nil))) IEs.nil)) [("step", 2)]
def b_law_word_128 : ISs := ISs.cons (IS.asg 1 (IE.call 15 (IEs.cons (IE.var 0) (IEs.cons (IE.int 4) IEs.nil)))) (ISs.cons (IS.ite (IB.val (IE.cmp CmpOp.Eq (IE.var 1) (IE.int 0))) (ISs.cons (IS.ret (IE.call 42 (IEs.cons (IE.var 0) IEs.nil))) ISs.nil) ISs.nil) (ISs.cons (IS.ite (IB.val (IE.cmp CmpOp.Eq (IE.var 1) (IE.int 1))) (ISs.cons (IS.ret (IE.met1 Me1.join (IE.str "") e_law_word_128_1)) ISs.nil) ISs.nil) (ISs.cons (IS.ret (IE.call 17 (IEs.cons (IE.var 0) (IEs.cons (IE.call 123 IEs.nil) IEs.nil)))) ISs.nil)))
def e_law_row_1 : IE := IE.lc (Src.rng1 (IE.var 1)) (Tgt.name 2) IBO.none (IE.call 128 (IEs.cons (IE.var 0) IEs.nil)) [("step", 2)]
def b_law_row : ISs := ISs.cons (IS.asg 1 (IE.call 15 (IEs.cons (IE.var 0) (IEs.cons (IE.int 13) IEs.nil)))) (ISs.cons (IS.ite (IB.val (IE.cmp CmpOp.Eq (IE.call 15 (IEs.cons (IE.var 0) (IEs.cons (IE.int 8) IEs.nil))) (IE.int 0))) (ISs.cons (IS.asg 1 (IE.call 15 (IEs.cons (IE.var 0) (IEs.cons (IE.int 61) IEs.nil)))) ISs.nil) ISs.nil) (ISs.cons (IS.ret e_law_row_1) ISs.nil))
def b_law_line_says_142 : ISs := ISs.cons (IS.tryX (ISs.cons (IS.ret (IE.tup (IEs.cons (IE.str "words") (IEs.cons (IE.call 140 (IEs.cons (IE.var 0) (IEs.cons (IE.var 1) IEs.nil))) IEs.nil)))) ISs.nil) ["BadText", "BadProgram", "BadShape", "TooMany", "BadPaper", "BadQuestion", "BadData"] [] (some 2) (SUs.cons (SU.ret (IE.ecall 350 (IE.var 2))) SUs.nil)) ISs.nil
def b_law_line_due : ISs := ISs.cons (IS.ite (IB.val (IE.var 0)) (ISs.cons (IS.ret (IE.tup (IEs.cons (IE.str "words") (IEs.cons (IE.bi BI.tuple (IEs.cons (IE.var 0) IEs.nil)) IEs.nil)))) ISs.nil) ISs.nil) (ISs.cons (IS.ret (IE.tup (IEs.cons (IE.str "refused") (IEs.cons (IE.str "BadText") (IEs.cons (IE.mov 1) (IEs.cons (IE.str "empty") IEs.nil)))))) ISs.nil)
def b_law_cursor_says_143 : ISs := ISs.cons (IS.tryX (ISs.cons (IS.ite (IB.val (IE.cmp CmpOp.Eq (IE.var 1) (IE.int 0))) (ISs.cons (IS.ret (IE.tup (IEs.cons (IE.str "take") (IEs.cons (IE.meth "take" [("Cursor", 148)] (IE.var 0) IEs.nil) IEs.nil)))) ISs.nil) ISs.nil) (ISs.cons (IS.ite (IB.val (IE.cmp CmpOp.Eq (IE.var 1) (IE.int 1))) (ISs.cons (IS.ret (IE.tup (IEs.cons (IE.str "taken") (IEs.cons (IE.meth "taken" [("Cursor", 149)] (IE.var 0) (IEs.cons (IE.var 2) IEs.nil)) IEs.nil)))) ISs.nil) ISs.nil) (ISs.cons (IS.ite (IB.val (IE.cmp CmpOp.Eq (IE.var 1) (IE.int 2))) (ISs.cons (IS.expr (IE.meth "need" [("Cursor", 150)] (IE.var 0) (IEs.cons (IE.var 2) (IEs.cons (IE.var 3) IEs.nil)))) (ISs.cons (IS.ret (IE.tup (IEs.cons (IE.str "need") IEs.nil))) ISs.nil)) ISs.nil) (ISs.cons (IS.ite (IB.val (IE.cmp CmpOp.Eq (IE.var 1) (IE.int 3))) (ISs.cons (IS.expr (IE.meth "finish" [("Cursor", 151)] (IE.var 0) (IEs.cons (IE.var 3) IEs.nil))) (ISs.cons (IS.ret (IE.tup (IEs.cons (IE.str "finish") IEs.nil))) ISs.nil)) ISs.nil) (ISs.cons (IS.ite (IB.val (IE.cmp CmpOp.Eq (IE.var 1) (IE.int 4))) (ISs.cons (IS.ret (IE.tup (IEs.cons (IE.str "name") (IEs.cons (IE.meth "take_name" [("Cursor", 152)] (IE.var 0) (IEs.cons (IE.var 3) IEs.nil)) IEs.nil)))) ISs.nil) ISs.nil) (ISs.cons (IS.ret (IE.tup (IEs.cons (IE.str "whole") (IEs.cons (IE.meth "take_whole" [("Cursor", 153)] (IE.var 0) (IEs.cons (IE.var 3) IEs.nil)) IEs.nil)))) ISs.nil)))))) ["BadText", "BadProgram", "BadShape", "TooMany", "BadPaper", "BadQuestion", "BadData"] [] (some 4) (SUs.cons (SU.ret (IE.ecall 350 (IE.var 4))) SUs.nil)) ISs.nil
def b_law_cursor_due : ISs := ISs.cons (IS.ite (IB.val (IE.cmp CmpOp.Eq (IE.var 0) (IE.int 0))) (ISs.cons (IS.ret (IE.tup (IEs.cons (IE.tup (IEs.cons (IE.str "take") (IEs.cons (IE.mov 1) IEs.nil))) (IEs.cons (IE.bl true) IEs.nil)))) ISs.nil) ISs.nil) (ISs.cons (IS.ite (IB.val (IE.cmp CmpOp.Eq (IE.var 0) (IE.int 1))) (ISs.cons (IS.ret (IE.tup (IEs.cons (IE.tup (IEs.cons (IE.str "taken") (IEs.cons (IE.cmp CmpOp.Eq (IE.var 2) (IE.var 1)) IEs.nil))) (IEs.cons (IE.cmp CmpOp.Eq (IE.var 2) (IE.var 1)) IEs.nil)))) ISs.nil) ISs.nil) (ISs.cons (IS.ite (IB.val (IE.cmp CmpOp.Eq (IE.var 0) (IE.int 2))) (ISs.cons (IS.ret (IE.ifx (IB.val (IE.cmp CmpOp.Eq (IE.var 2) (IE.var 1))) (IE.tup (IEs.cons (IE.tup (IEs.cons (IE.str "need") IEs.nil)) (IEs.cons (IE.bl true) IEs.nil))) (IE.tup (IEs.cons (IE.mov 3) (IEs.cons (IE.bl false) IEs.nil))))) ISs.nil) ISs.nil) (ISs.cons (IS.ite (IB.val (IE.cmp CmpOp.Eq (IE.var 0) (IE.int 3))) (ISs.cons (IS.ret (IE.tup (IEs.cons (IE.ifx (IB.val (IE.cmp CmpOp.Eq (IE.var 1) (IE.str ""))) (IE.tup (IEs.cons (IE.str "finish") IEs.nil)) (IE.mov 3)) (IEs.cons (IE.bl false) IEs.nil)))) ISs.nil) ISs.nil) (ISs.cons (IS.ite (IB.val (IE.cmp CmpOp.Eq (IE.var 0) (IE.int 4))) (ISs.cons (IS.ret (IE.ifx (IB.val (IE.chain CmpOp.LtE CmpOp.LtE (IE.str "a") (IE.sl (IE.var 1) IO.none (IO.some (IE.int 1))) (IE.str "z"))) (IE.tup (IEs.cons (IE.tup (IEs.cons (IE.str "name") (IEs.cons (IE.mov 1) IEs.nil))) (IEs.cons (IE.bl true) IEs.nil))) (IE.tup (IEs.cons (IE.mov 3) (IEs.cons (IE.bl false) IEs.nil))))) ISs.nil) ISs.nil) (ISs.cons (IS.ite (IB.val (IE.cmp CmpOp.NotIn (IE.sl (IE.var 1) IO.none (IO.some (IE.int 1))) (IE.bi BI.list (IEs.cons (IE.str "0123456789") IEs.nil)))) (ISs.cons (IS.ret (IE.tup (IEs.cons (IE.mov 3) (IEs.cons (IE.bl false) IEs.nil)))) ISs.nil) ISs.nil) (ISs.cons (IS.ite (IB.val (IE.cmp CmpOp.Gt (IE.bi BI.len (IEs.cons (IE.var 1) IEs.nil)) (IE.int 6))) (ISs.cons (IS.ret (IE.tup (IEs.cons (IE.tup (IEs.cons (IE.str "refused") (IEs.cons (IE.str "TooMany") (IEs.cons (IE.str "figures") (IEs.cons (IE.int 6) IEs.nil))))) (IEs.cons (IE.bl false) IEs.nil)))) ISs.nil) ISs.nil) (ISs.cons (IS.ret (IE.tup (IEs.cons (IE.tup (IEs.cons (IE.str "whole") (IEs.cons (IE.bi BI.int (IEs.cons (IE.var 1) IEs.nil)) IEs.nil))) (IEs.cons (IE.bl true) IEs.nil)))) ISs.nil)))))))
def s_law_cursor_goes_144_1 : ISs := ISs.cons (IS.asg 6 (IE.ifx (IB.val (IE.cmp CmpOp.Lt (IE.var 4) (IE.bi BI.len (IEs.cons (IE.var 1) IEs.nil)))) (IE.ix (IE.var 1) (IE.var 4)) (IE.str ""))) (ISs.cons (IS.asg 7 (IE.ifx (IB.and (IB.val (IE.cmp CmpOp.NotEq (IE.var 6) (IE.str ""))) (IB.val (IE.cmp CmpOp.Eq (IE.call 15 (IEs.cons (IE.var 0) (IEs.cons (IE.int 2) IEs.nil))) (IE.int 0)))) (IE.var 6) (IE.call 17 (IEs.cons (IE.var 0) (IEs.cons (IE.bin Operator.Add (IE.var 1) (IE.lst (IEs.cons (IE.str ":=") (IEs.cons (IE.str "x") IEs.nil)))) IEs.nil))))) (ISs.cons (IS.asg 8 (IE.call 17 (IEs.cons (IE.var 0) (IEs.cons (IE.lst (IEs.cons (IE.str "form") (IEs.cons (IE.str "statement") (IEs.cons (IE.str "head") (IEs.cons (IE.str "line") IEs.nil))))) IEs.nil)))) (ISs.cons (IS.asg 9 (IE.ifx (IB.val (IE.cmp CmpOp.NotEq (IE.var 6) (IE.str ""))) (IE.call 15 (IEs.cons (IE.var 0) (IEs.cons (IE.int 6) IEs.nil))) (IE.bin Operator.Add (IE.int 1) (IE.call 15 (IEs.cons (IE.var 0) (IEs.cons (IE.int 5) IEs.nil)))))) (ISs.cons (IS.asgT [10, 11] (IE.call 133 (IEs.cons (IE.var 9) (IEs.cons (IE.var 6) (IEs.cons (IE.var 7) (IEs.cons (IE.tup (IEs.cons (IE.str "refused") (IEs.cons (IE.str "BadText") (IEs.cons (IE.mov 2) (IEs.cons (IE.mov 8) IEs.nil))))) IEs.nil)))))) (ISs.cons (IS.ite (IB.or (IB.val (IE.cmp CmpOp.NotEq (IE.meth "peek" [("Cursor", 147)] (IE.var 3) IEs.nil) (IE.var 6))) (IB.val (IE.cmp CmpOp.NotEq (IE.bi BI.repr (IEs.cons (IE.call 143 (IEs.cons (IE.var 3) (IEs.cons (IE.var 9) (IEs.cons (IE.var 7) (IEs.cons (IE.var 8) IEs.nil))))) IEs.nil)) (IE.bi BI.repr (IEs.cons (IE.var 10) IEs.nil))))) (ISs.cons (IS.ret (IE.bl false)) ISs.nil) ISs.nil) (ISs.cons (IS.ite (IB.val (IE.var 11)) (ISs.cons (IS.asg 4 (IE.bin Operator.Add (IE.var 4) (IE.int 1))) ISs.nil) ISs.nil) ISs.nil))))))
def f_law_cursor_goes_144_1 : IS := IS.for (Tgt.name 5) (Src.rng1 (IE.bin Operator.Add (IE.bi BI.len (IEs.cons (IE.var 1) IEs.nil)) (IE.int 4))) s_law_cursor_goes_144_1
def s_law_cursor_goes_144_2 : ISs := ISs.cons (IS.ite (IB.or (IB.val (IE.cmp CmpOp.NotEq (IE.meth "peek" [("Cursor", 147)] (IE.var 3) IEs.nil) (IE.var 6))) (IB.val (IE.cmp CmpOp.NotEq (IE.meth "take" [("Cursor", 148)] (IE.var 3) IEs.nil) (IE.var 6)))) (ISs.cons (IS.ret (IE.bl false)) ISs.nil) ISs.nil) ISs.nil
def f_law_cursor_goes_144_2 : IS := IS.for (Tgt.name 6) (Src.seq (IE.sl (IE.var 1) (IO.some (IE.var 4)) IO.none)) s_law_cursor_goes_144_2
def b_law_cursor_goes_144 : ISs := ISs.cons (IS.asg 3 (IE.make "Cursor" 146 (IEs.cons (IE.bi BI.tuple (IEs.cons (IE.var 1) IEs.nil)) (IEs.cons (IE.var 2) IEs.nil)))) (ISs.cons (IS.asg 4 (IE.int 0)) (ISs.cons f_law_cursor_goes_144_1 (ISs.cons f_law_cursor_goes_144_2 (ISs.cons (IS.ret (IE.and (IE.cmp CmpOp.Eq (IE.meth "peek" [("Cursor", 147)] (IE.var 3) IEs.nil) (IE.str "")) (IE.cmp CmpOp.Eq (IE.call 143 (IEs.cons (IE.var 3) (IEs.cons (IE.int 3) (IEs.cons (IE.str "") (IEs.cons (IE.str "form") IEs.nil))))) (IE.tup (IEs.cons (IE.str "finish") IEs.nil))))) ISs.nil))))
def s_law_145_1 : ISs := ISs.cons (IS.ite (IB.val (IE.cmp CmpOp.NotEq (IE.bi BI.repr (IEs.cons (IE.call 142 (IEs.cons (IE.ix (IE.var 11) (IE.var 16)) (IEs.cons (IE.var 5) IEs.nil))) IEs.nil)) (IE.bi BI.repr (IEs.cons (IE.ix (IE.var 15) (IE.var 16)) IEs.nil)))) (ISs.cons (IS.ret (IE.bl false)) ISs.nil) ISs.nil) ISs.nil
def f_law_145_1 : IS := IS.for (Tgt.name 16) (Src.rng1 (IE.bi BI.len (IEs.cons (IE.var 11) IEs.nil))) s_law_145_1
def b_law_145 : ISs := ISs.cons (IS.asg 1 (IE.call 14 (IEs.cons (IE.var 0) (IEs.cons (IE.int 0) IEs.nil)))) (ISs.cons (IS.asg 2 (IE.call 14 (IEs.cons (IE.var 0) (IEs.cons (IE.int 1) IEs.nil)))) (ISs.cons (IS.asg 3 (IE.call 129 (IEs.cons (IE.var 1) IEs.nil))) (ISs.cons (IS.asg 4 (IE.call 129 (IEs.cons (IE.call 14 (IEs.cons (IE.var 0) (IEs.cons (IE.int 2) IEs.nil))) IEs.nil))) (ISs.cons (IS.asg 5 (IE.call 16 (IEs.cons (IE.var 2) (IEs.cons (IE.int 1) (IEs.cons (IE.int 400) IEs.nil))))) (ISs.cons (IS.asg 6 (IE.call 125 (IEs.cons (IE.var 2) (IEs.cons (IE.var 3) IEs.nil)))) (ISs.cons (IS.asg 7 (IE.bin Operator.Add (IE.bin Operator.Add (IE.var 6) (IE.str " ")) (IE.call 125 (IEs.cons (IE.var 2) (IEs.cons (IE.var 4) IEs.nil))))) (ISs.cons (IS.asg 8 (IE.bin Operator.Mult (IE.str " ") (IE.call 15 (IEs.cons (IE.var 2) (IEs.cons (IE.int 4) IEs.nil))))) (ISs.cons (IS.asg 9 (IE.call 15 (IEs.cons (IE.var 2) (IEs.cons (IE.bin Operator.Add (IE.bi BI.len (IEs.cons (IE.var 3) IEs.nil)) (IE.int 1)) IEs.nil)))) (ISs.cons (IS.asg 10 (IE.bin Operator.Add (IE.bin Operator.Add (IE.call 125 (IEs.cons (IE.var 2) (IEs.cons (IE.sl (IE.var 3) IO.none (IO.some (IE.var 9))) IEs.nil))) (IE.call 126 (IEs.cons (IE.var 2) IEs.nil))) (IE.call 125 (IEs.cons (IE.var 2) (IEs.cons (IE.sl (IE.var 3) (IO.some (IE.var 9)) IO.none) IEs.nil))))) (ISs.cons (IS.asg 11 (IE.lst (IEs.cons (IE.mov 6) (IEs.cons (IE.mov 8) (IEs.cons (IE.mov 7) (IEs.cons (IE.mov 10) (IEs.cons (IE.mov 6) (IEs.cons (IE.str "") IEs.nil)))))))) (ISs.cons (IS.ite (IB.or (IB.val (IE.cmp CmpOp.NotEq (IE.call 104 (IEs.cons (IE.met1 Me1.join (IE.str "\n") (IE.var 11)) IEs.nil)) (IE.bi BI.tuple (IEs.cons (IE.var 11) IEs.nil)))) (IB.val (IE.cmp CmpOp.NotEq (IE.call 104 (IEs.cons (IE.str "") IEs.nil)) (IE.tup (IEs.cons (IE.str "") IEs.nil))))) (ISs.cons (IS.ret (IE.bl false)) ISs.nil) ISs.nil) (ISs.cons (IS.asg 12 (IE.tup (IEs.cons (IE.str "refused") (IEs.cons (IE.str "BadText") (IEs.cons (IE.mov 5) (IEs.cons (IE.str "empty") IEs.nil)))))) (ISs.cons (IS.asg 13 (IE.tup (IEs.cons (IE.str "refused") (IEs.cons (IE.str "BadText") (IEs.cons (IE.mov 5) (IEs.cons (IE.str "sign") IEs.nil)))))) (ISs.cons (IS.asg 14 (IE.call 131 (IEs.cons (IE.var 3) (IEs.cons (IE.var 5) IEs.nil)))) (ISs.cons (IS.asg 15 (IE.lst (IEs.cons (IE.mov 14) (IEs.cons (IE.mov 12) (IEs.cons (IE.call 131 (IEs.cons (IE.bin Operator.Add (IE.var 3) (IE.var 4)) (IEs.cons (IE.var 5) IEs.nil))) (IEs.cons (IE.mov 13) (IEs.cons (IE.mov 14) (IEs.cons (IE.mov 12) IEs.nil)))))))) (ISs.cons f_law_145_1 (ISs.cons (IS.ret (IE.call 144 (IEs.cons (IE.call 14 (IEs.cons (IE.var 0) (IEs.cons (IE.int 3) IEs.nil))) (IEs.cons (IE.bin Operator.Add (IE.var 3) (IE.var 4)) (IEs.cons (IE.var 5) IEs.nil))))) ISs.nil)))))))))))))))))
def b_Cursor___init__ : ISs := ISs.cons (IS.fset 0 "words" ["Cursor"] (IE.mov 1)) (ISs.cons (IS.fset 0 "line" ["Cursor"] (IE.mov 2)) (ISs.cons (IS.fset 0 "place" ["Cursor"] (IE.int 0)) ISs.nil))
def b_Cursor_peek : ISs := ISs.cons (IS.ite (IB.val (IE.cmp CmpOp.Lt (IE.fld (IE.var 0) "place" ["Cursor"]) (IE.bi BI.len (IEs.cons (IE.fld (IE.var 0) "words" ["Cursor"]) IEs.nil)))) (ISs.cons (IS.ret (IE.ix (IE.fld (IE.var 0) "words" ["Cursor"]) (IE.fld (IE.var 0) "place" ["Cursor"]))) ISs.nil) ISs.nil) (ISs.cons (IS.ret (IE.str "")) ISs.nil)
def b_Cursor_take : ISs := ISs.cons (IS.asg 1 (IE.meth "peek" [("Cursor", 147)] (IE.var 0) IEs.nil)) (ISs.cons (IS.fset 0 "place" ["Cursor"] (IE.bin Operator.Add (IE.fld (IE.var 0) "place" ["Cursor"]) (IE.int 1))) (ISs.cons (IS.ret (IE.var 1)) ISs.nil))
def b_Cursor_taken : ISs := ISs.cons (IS.ite (IB.val (IE.cmp CmpOp.NotEq (IE.meth "peek" [("Cursor", 147)] (IE.var 0) IEs.nil) (IE.var 1))) (ISs.cons (IS.ret (IE.bl false)) ISs.nil) ISs.nil) (ISs.cons (IS.fset 0 "place" ["Cursor"] (IE.bin Operator.Add (IE.fld (IE.var 0) "place" ["Cursor"]) (IE.int 1))) (ISs.cons (IS.ret (IE.bl true)) ISs.nil))
def b_Cursor_need : ISs := ISs.cons (IS.ite (IB.not (IB.val (IE.meth "taken" [("Cursor", 149)] (IE.var 0) (IEs.cons (IE.var 1) IEs.nil)))) (ISs.cons (IS.raiseX "BadText" ["line", "fault"] (IE.fstr (IEs.cons (IE.str "line ") (IEs.cons (IE.var 1) (IEs.cons (IE.str ": ") (IEs.cons (IE.var 2) IEs.nil))))) (IEs.cons (IE.fld (IE.var 0) "line" ["Cursor"]) (IEs.cons (IE.var 2) IEs.nil))) ISs.nil) ISs.nil) ISs.nil
def b_Cursor_finish : ISs := ISs.cons (IS.ite (IB.val (IE.cmp CmpOp.Lt (IE.fld (IE.var 0) "place" ["Cursor"]) (IE.bi BI.len (IEs.cons (IE.fld (IE.var 0) "words" ["Cursor"]) IEs.nil)))) (ISs.cons (IS.raiseX "BadText" ["line", "fault"] (IE.fstr (IEs.cons (IE.str "line ") (IEs.cons (IE.var 1) (IEs.cons (IE.str ": ") (IEs.cons (IE.var 2) IEs.nil))))) (IEs.cons (IE.fld (IE.var 0) "line" ["Cursor"]) (IEs.cons (IE.var 1) IEs.nil))) ISs.nil) ISs.nil) ISs.nil
def b_Cursor_take_name : ISs := ISs.cons (IS.ite (IB.not (IB.val (IE.call 121 (IEs.cons (IE.meth "peek" [("Cursor", 147)] (IE.var 0) IEs.nil) IEs.nil)))) (ISs.cons (IS.raiseX "BadText" ["line", "fault"] (IE.fstr (IEs.cons (IE.str "line ") (IEs.cons (IE.var 1) (IEs.cons (IE.str ": ") (IEs.cons (IE.var 2) IEs.nil))))) (IEs.cons (IE.fld (IE.var 0) "line" ["Cursor"]) (IEs.cons (IE.var 1) IEs.nil))) ISs.nil) ISs.nil) (ISs.cons (IS.ret (IE.meth "take" [("Cursor", 148)] (IE.var 0) IEs.nil)) ISs.nil)
def b_Cursor_take_whole : ISs := ISs.cons (IS.ite (IB.not (IB.val (IE.call 122 (IEs.cons (IE.meth "peek" [("Cursor", 147)] (IE.var 0) IEs.nil) IEs.nil)))) (ISs.cons (IS.raiseX "BadText" ["line", "fault"] (IE.fstr (IEs.cons (IE.str "line ") (IEs.cons (IE.var 1) (IEs.cons (IE.str ": ") (IEs.cons (IE.var 2) IEs.nil))))) (IEs.cons (IE.fld (IE.var 0) "line" ["Cursor"]) (IEs.cons (IE.var 1) IEs.nil))) ISs.nil) ISs.nil) (ISs.cons (IS.ite (IB.val (IE.cmp CmpOp.Gt (IE.bi BI.len (IEs.cons (IE.meth "peek" [("Cursor", 147)] (IE.var 0) IEs.nil) IEs.nil)) (IE.glob 5))) (ISs.cons (IS.raiseX "TooMany" ["what", "limit"] (IE.fstr (IEs.cons (IE.str "more than ") (IEs.cons (IE.var 2) (IEs.cons (IE.str " ") (IEs.cons (IE.var 1) IEs.nil))))) (IEs.cons (IE.str "figures") (IEs.cons (IE.glob 5) IEs.nil))) ISs.nil) ISs.nil) (ISs.cons (IS.ret (IE.bi BI.int (IEs.cons (IE.meth "take" [("Cursor", 148)] (IE.var 0) IEs.nil) IEs.nil))) ISs.nil))
def Pr : Nat → Option FnI
  | 349 => some ⟨1, 1, b_error_words_349⟩
  | 104 => some ⟨1, 1, b_lines_of⟩
  | 117 => some ⟨2, 4, b_name_end⟩
  | 118 => some ⟨2, 3, b_number_end⟩
  | 119 => some ⟨2, 3, b_sign_at⟩
  | 140 => some ⟨2, 7, b_words_of_140⟩
  | 121 => some ⟨1, 1, b_is_name⟩
  | 122 => some ⟨1, 1, b_is_number⟩
  | 13 => some ⟨2, 4, b_law_mix⟩
  | 14 => some ⟨2, 7, b_law_jar⟩
  | 15 => some ⟨2, 3, b_law_draw⟩
  | 16 => some ⟨3, 3, b_law_between⟩
  | 17 => some ⟨2, 2, b_law_pick⟩
  | 123 => some ⟨0, 0, b_law_signs⟩
  | 124 => some ⟨2, 2, b_law_apart⟩
  | 125 => some ⟨2, 5, b_law_spaced⟩
  | 42 => some ⟨1, 5, b_law_name⟩
  | 126 => some ⟨1, 2, b_law_bad⟩
  | 350 => some ⟨1, 2, b_law_refusal_350⟩
  | 128 => some ⟨1, 3, b_law_word_128⟩
  | 129 => some ⟨1, 3, b_law_row⟩
  | 142 => some ⟨2, 3, b_law_line_says_142⟩
  | 131 => some ⟨2, 2, b_law_line_due⟩
  | 143 => some ⟨4, 5, b_law_cursor_says_143⟩
  | 133 => some ⟨4, 4, b_law_cursor_due⟩
  | 144 => some ⟨3, 12, b_law_cursor_goes_144⟩
  | 145 => some ⟨1, 17, b_law_145⟩
  | 146 => some ⟨3, 3, b_Cursor___init__⟩
  | 147 => some ⟨1, 1, b_Cursor_peek⟩
  | 148 => some ⟨1, 2, b_Cursor_take⟩
  | 149 => some ⟨2, 2, b_Cursor_taken⟩
  | 150 => some ⟨3, 3, b_Cursor_need⟩
  | 151 => some ⟨2, 2, b_Cursor_finish⟩
  | 152 => some ⟨2, 2, b_Cursor_take_name⟩
  | 153 => some ⟨2, 2, b_Cursor_take_whole⟩
  | _ => none
def G0 : Nat → T
  | 5 => .int 6
  | 2 => .tup [.str ":=", .str "<=", .str ">=", .str "==", .str "<", .str ">", .str "+", .str "-", .str "/", .str "(", .str ")", .str ",", .str "|", .str ":"]
  | 3 => .str "abcdefghijklmnopqrstuvwxyz"
  | 4 => .str "0123456789"
  | _ => .non
def D0 : Nat → Nat → List T
  | _, _ => []
@[simp] theorem D0_349_1 : D0 349 1 = [] := rfl
@[simp] theorem D0_104_1 : D0 104 1 = [] := rfl
@[simp] theorem D0_117_2 : D0 117 2 = [] := rfl
@[simp] theorem D0_118_2 : D0 118 2 = [] := rfl
@[simp] theorem D0_119_2 : D0 119 2 = [] := rfl
@[simp] theorem D0_140_2 : D0 140 2 = [] := rfl
@[simp] theorem D0_121_1 : D0 121 1 = [] := rfl
@[simp] theorem D0_122_1 : D0 122 1 = [] := rfl
@[simp] theorem D0_13_2 : D0 13 2 = [] := rfl
@[simp] theorem D0_14_2 : D0 14 2 = [] := rfl
@[simp] theorem D0_15_2 : D0 15 2 = [] := rfl
@[simp] theorem D0_16_3 : D0 16 3 = [] := rfl
@[simp] theorem D0_17_2 : D0 17 2 = [] := rfl
@[simp] theorem D0_123_0 : D0 123 0 = [] := rfl
@[simp] theorem D0_124_2 : D0 124 2 = [] := rfl
@[simp] theorem D0_125_2 : D0 125 2 = [] := rfl
@[simp] theorem D0_42_1 : D0 42 1 = [] := rfl
@[simp] theorem D0_126_1 : D0 126 1 = [] := rfl
@[simp] theorem D0_350_1 : D0 350 1 = [] := rfl
@[simp] theorem D0_128_1 : D0 128 1 = [] := rfl
@[simp] theorem D0_129_1 : D0 129 1 = [] := rfl
@[simp] theorem D0_142_2 : D0 142 2 = [] := rfl
@[simp] theorem D0_131_2 : D0 131 2 = [] := rfl
@[simp] theorem D0_143_4 : D0 143 4 = [] := rfl
@[simp] theorem D0_133_4 : D0 133 4 = [] := rfl
@[simp] theorem D0_144_3 : D0 144 3 = [] := rfl
@[simp] theorem D0_145_1 : D0 145 1 = [] := rfl
@[simp] theorem D0_146_3 : D0 146 3 = [] := rfl
@[simp] theorem D0_147_1 : D0 147 1 = [] := rfl
@[simp] theorem D0_148_1 : D0 148 1 = [] := rfl
@[simp] theorem D0_149_2 : D0 149 2 = [] := rfl
@[simp] theorem D0_150_3 : D0 150 3 = [] := rfl
@[simp] theorem D0_151_2 : D0 151 2 = [] := rfl
@[simp] theorem D0_152_2 : D0 152 2 = [] := rfl
@[simp] theorem D0_153_2 : D0 153 2 = [] := rfl
@[simp] theorem G0_5 : G0 5 = .int 6 := rfl
@[simp] theorem G0_2 : G0 2 = .tup [.str ":=", .str "<=", .str ">=", .str "==", .str "<", .str ">", .str "+", .str "-", .str "/", .str "(", .str ")", .str ",", .str "|", .str ":"] := rfl
@[simp] theorem G0_3 : G0 3 = .str "abcdefghijklmnopqrstuvwxyz" := rfl
@[simp] theorem G0_4 : G0 4 = .str "0123456789" := rfl
end G
namespace G
open PySem PySem.Spec PyProof.Rows L2

/-! # the law's jar -/
structure Jar where
  a : Int
  b : Int
  c : Int
def jarO (j : Jar) : Ow := .lst [.int j.a, .int j.b, .int j.c]
def mix1 (n t : Int) : Int := ((n + 11) * 6364136223846793005 + (t + 3) * 1442695040888963407) % 18446744073709551557
def mixv (n t : Int) : Int := ((mix1 n t * (mix1 n t + 2 * t + 5) + 7046029254386353131) % 18446744073709551533) / 65536
def drawV (j : Jar) (m : Int) : Int := if 0 < j.a then j.a % m else mixv j.c (j.b + 1) % m
def drawJ (j : Jar) (m : Int) : Jar := if 0 < j.a then ⟨j.a / m, j.b + 1, j.c⟩ else ⟨j.a, j.b + 1, j.c⟩
theorem drawV_nonneg (j : Jar) {m : Int} (h : 0 < m) : 0 ≤ drawV j m := by
  unfold drawV; split <;> exact Int.emod_nonneg _ (by omega)
theorem drawV_lt (j : Jar) {m : Int} (h : 0 < m) : drawV j m < m := by
  unfold drawV; split <;> exact Int.emod_lt_of_pos _ h
variable (k L : Nat)
theorem mix_spec (n t : Int) : callF Pr G0 D0 L (k + 1) 13 [.val (.int n), .val (.int t)] = .ok (.val (.int (mixv n t))) [.val (.int n), .val (.int t)] := by
  rw [callF_succ (f := ⟨2, 4, b_law_mix⟩) rfl rfl]
  have h1 := Int.emod_nonneg ((n + 11) * 6364136223846793005 + (t + 3) * 1442695040888963407) (b := 18446744073709551557) (by decide)
  have h2 := Int.emod_lt_of_pos ((n + 11) * 6364136223846793005 + (t + 3) * 1442695040888963407) (b := 18446744073709551557) (by decide)
  unfold mixv mix1
  generalize hm : ((n + 11) * 6364136223846793005 + (t + 3) * 1442695040888963407) % 18446744073709551557 = m at h1 h2
  have m1 : mulOk m (m + 2 * t + 5) = true := mulOk_l (by omega)
  simp [b_law_mix, mulOk_r (i := n + 11) (j := 6364136223846793005) (by omega), mulOk_r (i := t + 3) (j := 1442695040888963407) (by omega), mulOk_l (i := 2) (j := t) (by omega), hm, m1, (by decide : Nat.log2 65536 < 9000)]
theorem draw_spec (j : Jar) (m : Int) (hm : 0 < m) (hl : m.natAbs.log2 < 9000) :
    callF Pr G0 D0 L (k + 2) 15 [.own (jarO j), .val (.int m)] = .ok (.val (.int (drawV j m))) [.own (jarO (drawJ j m)), .val (.int m)] := by
  rw [callF_succ (f := ⟨2, 3, b_law_draw⟩) rfl rfl]
  by_cases h : 0 < j.a
  · simp [b_law_draw, jarO, drawV, drawJ, h, hm, hl]
  · simp [b_law_draw, jarO, drawV, drawJ, h, hm, hl, mix_spec]
theorem small_log {m : Int} (h : 0 < m) (h2 : m ≤ 2 ^ 100) : m.natAbs.log2 < 9000 := by
  have h3 : m.natAbs < 2 ^ 101 := by omega
  have : m.natAbs.log2 < 101 := (Nat.log2_lt (by omega)).mpr h3
  omega
/-- a draw by a written number -/
theorem draw_n (j : Jar) (m : Int) (h : 0 < m ∧ m ≤ 2 ^ 100) : callF Pr G0 D0 L (k + 2) 15 [.own (jarO j), .val (.int m)] = .ok (.val (.int (drawV j m))) [.own (jarO (drawJ j m)), .val (.int m)] := draw_spec k L j m h.1 (small_log h.1 h.2)
theorem pick_at {xs : List T} {d : Int} (h0 : 0 ≤ d) (h : d < xs.length) : ∃ x, xs[d.toNat]? = some x ∧ x ∈ xs := by
  have : d.toNat < xs.length := by omega
  exact ⟨xs[d.toNat], List.getElem?_eq_getElem this, List.getElem_mem this⟩
def pickV (j : Jar) (xs : List T) : T := xs.getD (drawV j xs.length).toNat .non
theorem pickV_mem (j : Jar) {xs : List T} (h : 0 < xs.length) : pickV j xs ∈ xs := by
  have h1 := drawV_nonneg j (m := xs.length) (by omega)
  have h2 := drawV_lt j (m := xs.length) (by omega)
  unfold pickV
  rw [List.getD_eq_getElem?_getD, List.getElem?_eq_getElem (by omega)]
  exact List.getElem_mem _
theorem pick_get (j : Jar) {xs : List T} (h : 0 < xs.length) : xs[(drawV j xs.length).toNat]? = some (pickV j xs) := by
  have h1 := drawV_nonneg j (m := xs.length) (by omega)
  have h2 := drawV_lt j (m := xs.length) (by omega)
  unfold pickV
  rw [List.getD_eq_getElem?_getD, List.getElem?_eq_getElem (by omega)]
  rfl
theorem pick_spec (j : Jar) (iv : Iv) (xs : List T) (hx : iv = .own (.lst xs) ∨ iv = .lck (.lst xs) ∨ iv = .val (.lst xs) ∨ iv = .val (.tup xs)) (h : 0 < xs.length) (h2 : xs.length ≤ 100000) :
    callF Pr G0 D0 L (k + 3) 17 [.own (jarO j), iv] = .ok (.val (pickV j xs)) [.own (jarO (drawJ j xs.length)), iv] := by
  rw [callF_succ (f := ⟨2, 2, b_law_pick⟩) rfl rfl]
  have hd := draw_n k L j xs.length (by omega)
  have h1 := drawV_nonneg j (m := xs.length) (by omega)
  have h3 := drawV_lt j (m := xs.length) (by omega)
  have hp : ∀ q : (drawV j xs.length).toNat < xs.length, xs[(drawV j xs.length).toNat]'q = pickV j xs := fun q => by
    have := pick_get j h
    rw [List.getElem?_eq_getElem q] at this
    exact Option.some.inj this
  rcases hx with rfl | rfl | rfl | rfl <;> simp [b_law_pick, hd, h1, h3, hp]
theorem cut63 (ns : List Int) (hn : ns.length ≤ 63) : cutT (ns.map T.int) none (some 63) = ns.map T.int := by
  unfold cutT
  have e1 : HT.sIx (ns.map T.int).length 0 none = 0 := HT.sIx_none _ _
  have e2 : HT.sIx (ns.map T.int).length (ns.map T.int).length (some 63) = (ns.map T.int).length := by
    rw [show (some (63 : Int)) = some ((63 : Nat) : Int) from rfl, HT.sIx_nat]
    simp; omega
  rw [e1, e2, List.drop_zero, Nat.sub_zero, List.take_length]
theorem jar_spec (ns : List Int) (p : Int) (hn : ns.length ≤ 63) (hp : 0 ≤ p) : ∃ j : Jar,
    callF Pr G0 D0 L (k + 1) 14 [.val (.rlst (ns.map T.int)), .val (.int p)] = .ok (.own (jarO j)) [.val (.rlst (ns.map T.int)), .val (.int p)] := by
  have h63 : (63 : Nat) < sizeLine := by decide
  rw [callF_succ (f := ⟨2, 7, b_law_jar⟩) rfl rfl]
  have hlc : ev (callF Pr G0 D0 L k) G0 D0 e_law_jar_1 [some (.val (.rlst (ns.map T.int))), some (.val (.int p)), none, none, none, none, none] = .ok (.new (.lst (ns.map T.int))) [some (.val (.rlst (ns.map T.int))), some (.val (.int p)), none, none, none, none, none] :=
    lc_map (xs := ns) (f := T.int) (lk := none) (e1 := [some (.val (.rlst (ns.map T.int))), some (.val (.int p)), none, none, none, none, none]) _ T.int (by simp [cut63 ns hn]) rfl (fun i hi => ⟨_, _, by simp; rfl, by simp; rfl, by simp⟩) (by omega)
  obtain ⟨e', hl, c, he'⟩ := forL_st (fx := fxOf [.val (.rlst (ns.map T.int)), .val (.int p)]) (tg := .name 4) (body := xcs (callF Pr G0 D0 L k) G0 D0 (fxOf [.val (.rlst (ns.map T.int)), .val (.int p)]) L s_law_jar_2) (f := T.int) (xs := ns)
    (fun (tot : Int) e => ∃ c : Option Iv, e = [some (.val (.rlst (ns.map T.int))), some (.val (.int p)), some (.lck (.lst (ns.map T.int))), some (.val (.int tot)), c, none, none]) (fun tot i => (tot * 31 + if i < 0 then -i else i) % 1000003)
    (s := 17 + 7919 * p) (e := [some (.val (.rlst (ns.map T.int))), some (.val (.int p)), some (.lck (.lst (ns.map T.int))), some (.val (.int (17 + 7919 * p))), none, none, none]) (fun i hi tot e ⟨c, he⟩ => by
      subst he
      exact ⟨_, _, by simp; rfl, by simp [s_law_jar_2, mulOk_r (i := tot) (j := 31) (by omega)]; rfl, _, rfl⟩) ⟨_, rfl⟩
  subst he'
  generalize ns.foldl (fun tot i => (tot * 31 + if i < 0 then -i else i) % 1000003) (17 + 7919 * p) = tot at hl
  have hfor : xc (callF Pr G0 D0 L k) G0 D0 (fxOf [.val (.rlst (ns.map T.int)), .val (.int p)]) L f_law_jar_2 [some (.val (.rlst (ns.map T.int))), some (.val (.int p)), some (.own (.lst (ns.map T.int))), some (.val (.int (17 + 7919 * p))), none, none, none] = _ :=
    for_ok (items := ns.map T.int) (lk := some 2) (e1 := [some (.val (.rlst (ns.map T.int))), some (.val (.int p)), some (.own (.lst (ns.map T.int))), some (.val (.int (17 + 7919 * p))), none, none, none]) (by simp) hl
  simp at hfor
  have hm := mulOk_l (i := 7919) (j := p) (by omega)
  by_cases hle : (ns.length : Int) ≤ p
  · exact ⟨⟨0, 0, tot⟩, by simp [b_law_jar, hlc, hm, hfor, hle, jarO]⟩
  · have hlt : p < ns.length := by omega
    have hlt' : p.toNat < ns.length := by omega
    by_cases hq : ns[p.toNat] < 0
    · by_cases hbig : (1000000000000000000 : Int) ≤ -ns[p.toNat]
      · exact ⟨⟨-ns[p.toNat], 0, 2 * -ns[p.toNat] + 1⟩, by simp [b_law_jar, hlc, hm, hfor, hle, hp, hlt, hlt', hq, hbig, jarO]⟩
      · exact ⟨⟨0, 0, 2 * -ns[p.toNat] + 1 + 1000003 * p⟩, by simp [b_law_jar, hlc, hm, hfor, hle, hp, hlt, hlt', hq, hbig, jarO]⟩
    · by_cases hbig : (1000000000000000000 : Int) ≤ ns[p.toNat]
      · exact ⟨⟨ns[p.toNat], 0, 2 * ns[p.toNat] + 0⟩, by simp [b_law_jar, hlc, hm, hfor, hle, hp, hlt, hlt', hq, hbig, jarO]⟩
      · exact ⟨⟨0, 0, 2 * ns[p.toNat] + 0 + 1000003 * p⟩, by simp [b_law_jar, hlc, hm, hfor, hle, hp, hlt, hlt', hq, hbig, jarO]⟩
end G
namespace G
open PySem PySem.Spec PyProof.Rows L2
theorem lcLoop_inv {step : T → Env → Out (Option T)} {vs : List Nat} {I : Env → Prop} {P : T → Prop} : ∀ {xs acc : List T} {e : Env}, (∀ t ∈ xs, ∀ e, I (wipeE e vs) → ∃ y e', step t e = .ok (some y) e' ∧ I (wipeE e' vs) ∧ P y) → I (wipeE e vs) → acc.length + xs.length < sizeLine →
    ∃ ys e', lcLoop step xs acc e = .ok (acc ++ ys) e' ∧ ys.length = xs.length ∧ (∀ y ∈ ys, P y) ∧ I (wipeE e' vs)
  | [], acc, e, _, he, _ => ⟨[], e, by simp [lcLoop], rfl, by simp, he⟩
  | x :: xs, acc, e, h, he, hz => by
    obtain ⟨y, e1, h1, h2, hy⟩ := h x (by simp) e he
    simp only [List.length_cons] at hz
    obtain ⟨ys, e2, h3, h4, h5, h6⟩ := lcLoop_inv (xs := xs) (acc := acc ++ [y]) (fun u hu => h u (by simp [hu])) h2 (by simp; omega)
    refine ⟨y :: ys, e2, ?_, by simp [h4], fun u hu => ?_, h6⟩
    · simp only [lcLoop, h1, s_bind_ok]
      rw [if_pos (by omega), h3]
      simp
    · rcases List.mem_cons.mp hu with rfl | hu
      · exact hy
      · exact h5 u hu
theorem lc_inv {C : Nat → List Iv → Res} {G : Nat → T} {D : Nat → Nat → List T} {src : Src} {tg : Tgt} {cond : IBO} {elt : IE} {own : List (Str × Nat)} {env e1 : Env} {xs : List T} {lk : Option Nat} (I : Env → Prop) (P : T → Prop) (hs : evSrc C G D src env = .ok (xs, lk) e1) (hw : I (wipeE (lockE e1 lk) (own.map (·.2))))
    (step : ∀ x ∈ xs, ∀ w, I w → ∃ e2 y e', bindT (fun _ => false) tg x w = some e2 ∧ lcOne C G D cond elt e2 = .ok (some y) e' ∧ I (wipeE e' (own.map (·.2))) ∧ P y) (hz : xs.length < sizeLine) :
    ∃ ys w, ev C G D (.lc src tg cond elt own) env = .ok (.new (.lst ys)) (unlockE w lk) ∧ ys.length = xs.length ∧ (∀ y ∈ ys, P y) ∧ I w := by
  obtain ⟨ys, e', h1, h2, h3, h4⟩ := lcLoop_inv (step := fun t e => match bindT (fun _ => false) tg t (wipeE e (own.map (·.2))) with
        | none => .stuck
        | some e2 => noexc ((evC C G D cond e2).bind fun k e3 => if k then (ev C G D elt e3).bind fun r e4 => ofO ((esc e4 r).map some) e4 else .ok none e3)) (vs := own.map (·.2)) (I := I) (P := P) (xs := xs) (acc := []) (e := lockE e1 lk) (fun t ht e he => by
      obtain ⟨e2, y, e', q1, q2, q3, q4⟩ := step t ht _ he
      refine ⟨y, e', ?_, q3, q4⟩
      simp only [q1]
      unfold lcOne at q2
      rw [q2]
      rfl) hw (by simpa using hz)
  refine ⟨ys, _, ?_, h2, h3, h4⟩
  show (evSrc C G D src env).bind _ = _
  rw [hs, s_bind_ok]
  refine Eq.trans (congrArg (fun o : Out (List T) => o.bind fun acc e5 => Out.ok (R.new (.lst acc)) (unlockE (wipeE e5 (own.map (·.2))) lk)) h1) ?_
  simp only [s_bind_ok, List.nil_append]
theorem choose_map {α : Type} {f : α → T} {R : α → Prop} : ∀ {ys : List T}, (∀ y ∈ ys, ∃ q, y = f q ∧ R q) → ∃ qs : List α, ys = qs.map f ∧ ∀ q ∈ qs, R q
  | [], _ => ⟨[], rfl, by simp⟩
  | y :: ys, h => by
    obtain ⟨q, rfl, hq⟩ := h y (by simp)
    obtain ⟨qs, rfl, hqs⟩ := choose_map fun u hu => h u (List.mem_cons_of_mem _ hu)
    exact ⟨q :: qs, rfl, fun u hu => by
      rcases List.mem_cons.mp hu with rfl | hu
      · exact hq
      · exact hqs u hu⟩
/-! # a row of statements, one by one -/
theorem xcs_step {C : Nat → List Iv → Res} {G : Nat → T} {D : Nat → Nat → List T} {fx : Nat → Bool} {L : Nat} {s : IS} {ss : ISs} {env e1 : Env} {o : Out Sg} (h : xc C G D fx L s env = .ok .nxt e1) (k : xcs C G D fx L ss e1 = o) : xcs C G D fx L (.cons s ss) env = o := by
  show (xc C G D fx L s env).bind _ = _
  rw [h]; exact k
theorem xcs_ret {C : Nat → List Iv → Res} {G : Nat → T} {D : Nat → Nat → List T} {fx : Nat → Bool} {L : Nat} {s : IS} {ss : ISs} {env e1 : Env} {iv : Iv} (h : xc C G D fx L s env = .ok (.ret iv) e1) : xcs C G D fx L (.cons s ss) env = .ok (.ret iv) e1 := by
  show (xc C G D fx L s env).bind _ = _
  rw [h]; rfl
theorem for_exc {C : Nat → List Iv → Res} {G : Nat → T} {D : Nat → Nat → List T} {fx : Nat → Bool} {L : Nat} {tg : Tgt} {src : Src} {body : ISs} {env e1 e' : Env} {items : List T} {lk : Option Nat} {x : Xv} (hs : evSrc C G D src env = .ok (items, lk) e1) (h : forL fx tg (xcs C G D fx L body) items (lockE e1 lk) = .exc x e') :
    xc C G D fx L (.for tg src body) env = .exc x (unlockE e' lk) := by
  show (evSrc C G D src env).bind _ = _
  rw [hs, s_bind_ok, h]
  rfl
end G
namespace G
open PySem PySem.Spec PyProof.Rows L2

/-! # words of a line: the scanning defs (name_end 117, number_end 118, sign_at 119) -/
theorem eqR_strs (a b : Str) : eqR (.str a) (.str b) = some (decide (a = b)) := by
  unfold eqR
  simp [flatT, scal]
theorem in_sign (c : Nat) (b : Str) : inR (.str ⟨#[c]⟩) (.str b) = some (decide (c ∈ b.cps.toList)) := by
  have : oneSign (⟨#[c]⟩ : Str) = some c := rfl
  simp only [inR, this]
theorem at_str {z : Str} {e c : Nat} (h : z.cps.toList[e]? = some c) (hz : z.length ≤ 100000) : ixR (.str z) (.int (e : Int)) = some (.str ⟨#[c]⟩) := by
  obtain ⟨hlt, he⟩ := List.getElem?_eq_some_iff.mp h
  have h1 : z.length ≤ sizeLine := le_size hz
  have h2 : atI z.cps.toList (e : Int) = some c := by
    unfold atI ixN
    rw [if_pos (by omega), if_pos (by omega), Option.bind_some, Int.toNat_natCast]
    exact h
  unfold ixR
  simp only [h1, if_true, h2]
  rfl
def lets : List Nat := ("abcdefghijklmnopqrstuvwxyz" : Str).cps.toList
def digs : List Nat := ("0123456789" : Str).cps.toList
def isLet (c : Nat) : Bool := decide (c ∈ lets)
def isDig (c : Nat) : Bool := decide (c ∈ digs)
def isAl (c : Nat) : Bool := isLet c || isDig c
theorem lt_len {z : Str} {e : Nat} : (e < z.length) = (e < z.cps.toList.length) := by rw [TL.len_tl]
/-- where a number ends -/
def numE (xs : List Nat) (e : Nat) : Nat := e + ((xs.drop e).takeWhile isDig).length
theorem numE_step {xs : List Nat} {e c : Nat} (h : xs[e]? = some c) (hd : isDig c = true) : numE xs e = numE xs (e + 1) := by
  obtain ⟨hlt, he⟩ := List.getElem?_eq_some_iff.mp h
  unfold numE
  rw [List.drop_eq_getElem_cons hlt, he, List.takeWhile_cons_of_pos hd, List.length_cons]
  omega
theorem numE_stop {xs : List Nat} {e c : Nat} (h : xs[e]? = some c) (hd : isDig c = false) : numE xs e = e := by
  obtain ⟨hlt, he⟩ := List.getElem?_eq_some_iff.mp h
  unfold numE
  rw [List.drop_eq_getElem_cons hlt, he, List.takeWhile_cons_of_neg (by simp [hd])]
  rfl
theorem numE_end {xs : List Nat} {e : Nat} (h : xs.length ≤ e) : numE xs e = e := by
  unfold numE
  rw [List.drop_of_length_le h]
  rfl
variable (k L : Nat)
theorem num_loop {z : Str} (hz : z.length ≤ 100000) (p : Iv) (fx : Nat → Bool) (f2 : fx 2 = false) : ∀ (m fuel e : Nat), z.cps.toList.length - e ≤ m → m < fuel →
    whileL (evT (callF Pr G0 D0 L k) G0 D0 (IB.and (IB.val (IE.cmp CmpOp.Lt (IE.var 2) (IE.bi BI.len (IEs.cons (IE.var 0) IEs.nil)))) (IB.val (IE.cmp CmpOp.In (IE.ix (IE.var 0) (IE.var 2)) (IE.glob 4))))) (xcs (callF Pr G0 D0 L k) G0 D0 fx L s_number_end_1) fuel [some (.val (.str z)), some p, some (.val (.int (e : Int)))] =
      .ok .nxt [some (.val (.str z)), some p, some (.val (.int ((numE z.cps.toList e : Nat) : Int)))]
  | m, 0, e, _, hf => by omega
  | m, fuel + 1, e, hm, hf => by
    have hz1 : z.length ≤ sizeLine := le_size hz
    by_cases hlt : e < z.cps.toList.length
    · have hc := List.getElem?_eq_getElem hlt
      generalize z.cps.toList[e] = c at hc
      have hat := at_str hc hz
      have hlt' : (e : Int) < z.length := by rw [TL.len_tl]; exact_mod_cast hlt
      have hin := in_sign c "0123456789"
      by_cases hd : isDig c = true
      · have hd' : c ∈ ("0123456789" : Str).cps.toList := by simpa [isDig, digs] using hd
        obtain ⟨m', rfl⟩ : ∃ m', m = m' + 1 := ⟨m - 1, by omega⟩
        have ih := num_loop hz p fx f2 m' fuel (e + 1) (by omega) (by omega)
        rw [numE_step hc hd]
        rw [← ih]
        simp only [hd', decide_true] at hin
        simp [whileL, hlt', hat, hin, s_number_end_1, f2, hz1, -s_ixR_4]
      · have hd : isDig c = false := by simpa using hd
        have hd' : ¬ c ∈ ("0123456789" : Str).cps.toList := by simpa [isDig, digs] using hd
        rw [numE_stop hc hd]
        simp only [hd', decide_false] at hin
        simp [whileL, hlt', hat, hin, hz1, -s_ixR_4]
    · have hlt' : ¬ (e : Int) < z.length := by rw [TL.len_tl]; intro h; exact hlt (by exact_mod_cast h)
      rw [numE_end (by omega)]
      simp [whileL, hlt', hz1]
theorem number_end_spec {z : Str} (hz : z.length ≤ 100000) (hL : z.length < L) (e : Nat) : callF Pr G0 D0 L (k + 1) 118 [.val (.str z), .val (.int (e : Int))] = .ok (.val (.int ((numE z.cps.toList e : Nat) : Int))) [.val (.str z), .val (.int (e : Int))] := by
  rw [callF_succ (f := ⟨2, 3, b_number_end⟩) rfl rfl]
  have hw : xc (callF Pr G0 D0 L k) G0 D0 (fxOf [.val (.str z), .val (.int (e : Int))]) L f_number_end_1 [some (.val (.str z)), some (.val (.int (e : Int))), some (.val (.int (e : Int)))] = .ok .nxt [some (.val (.str z)), some (.val (.int (e : Int))), some (.val (.int ((numE z.cps.toList e : Nat) : Int)))] :=
    num_loop k L hz _ _ rfl z.length L e (by rw [← TL.len_tl]; omega) hL
  simp [b_number_end, hw]
/-! ## where a name ends -/
def nmL : List Nat → Nat
  | [] => 0
  | [c] => if isAl c = true then 1 else 0
  | c :: d :: r => if isAl c = true then 1 + nmL (d :: r) else if c = 46 ∧ isAl d = true then 2 + nmL r else 0
def nmE (xs : List Nat) (e : Nat) : Nat := e + nmL (xs.drop e)
theorem nmL_al {c : Nat} (h : isAl c = true) : ∀ r : List Nat, nmL (c :: r) = 1 + nmL r
  | [] => by simp [nmL, h]
  | d :: r => by simp [nmL, h]
theorem nmE_al {xs : List Nat} {e c : Nat} (h : xs[e]? = some c) (hd : isAl c = true) : nmE xs e = nmE xs (e + 1) := by
  obtain ⟨hlt, he⟩ := List.getElem?_eq_some_iff.mp h
  unfold nmE
  rw [List.drop_eq_getElem_cons hlt, he, nmL_al hd]
  omega
theorem nmE_dot {xs : List Nat} {e d : Nat} (h : xs[e]? = some 46) (h2 : xs[e + 1]? = some d) (hd : isAl d = true) : nmE xs e = nmE xs (e + 2) := by
  obtain ⟨hlt, he⟩ := List.getElem?_eq_some_iff.mp h
  obtain ⟨hlt2, he2⟩ := List.getElem?_eq_some_iff.mp h2
  have h46 : isAl 46 = false := by decide +kernel
  unfold nmE
  rw [List.drop_eq_getElem_cons hlt, he, List.drop_eq_getElem_cons hlt2, he2]
  simp only [nmL, h46, hd, Bool.false_eq_true, if_false, and_self, if_true]
  rw [show e + 1 + 1 = e + 2 from rfl]
  omega
theorem nmE_stop {xs : List Nat} {e c : Nat} (h : xs[e]? = some c) (hd : isAl c = false) (hn : ¬ (c = 46 ∧ ∃ d, xs[e + 1]? = some d ∧ isAl d = true)) : nmE xs e = e := by
  obtain ⟨hlt, he⟩ := List.getElem?_eq_some_iff.mp h
  unfold nmE
  rw [List.drop_eq_getElem_cons hlt, he]
  by_cases h2 : e + 1 < xs.length
  · rw [List.drop_eq_getElem_cons h2]
    have : ¬ (c = 46 ∧ isAl xs[e + 1] = true) := fun ⟨a, b⟩ => hn ⟨a, _, List.getElem?_eq_getElem h2, b⟩
    simp only [nmL, hd, Bool.false_eq_true, if_false, this]
    rfl
  · rw [List.drop_of_length_le (by omega)]
    simp [nmL, hd]
theorem nmE_end {xs : List Nat} {e : Nat} (h : xs.length ≤ e) : nmE xs e = e := by
  unfold nmE
  rw [List.drop_of_length_le h]
  rfl
theorem isAl_or {c : Nat} : isAl c = true ↔ (c ∈ ("abcdefghijklmnopqrstuvwxyz" : Str).cps.toList ∨ c ∈ ("0123456789" : Str).cps.toList) := by
  simp [isAl, isLet, isDig, lets, digs]
theorem sign_dot (c : Nat) : ((⟨#[c]⟩ : Str) = ("." : Str)) = (c = 46) := by
  apply propext
  constructor
  · intro h
    have : (⟨#[c]⟩ : Str).cps = (⟨#[46]⟩ : Str).cps := congrArg Str.cps (h.trans (by decide +kernel))
    simpa using this
  · rintro rfl; decide +kernel
theorem name_loop {z : Str} (hz : z.length ≤ 100000) (p : Iv) (fx : Nat → Bool) (f2 : fx 2 = false) (f3 : fx 3 = false) : ∀ (m fuel e : Nat) (c0 : Option Iv), z.cps.toList.length - e ≤ m → m < fuel →
    ∃ c', whileL (evT (callF Pr G0 D0 L k) G0 D0 (IB.val (IE.cmp CmpOp.Lt (IE.var 2) (IE.bi BI.len (IEs.cons (IE.var 0) IEs.nil))))) (xcs (callF Pr G0 D0 L k) G0 D0 fx L s_name_end_1) fuel [some (.val (.str z)), some p, some (.val (.int (e : Int))), c0] =
      .ok .nxt [some (.val (.str z)), some p, some (.val (.int ((nmE z.cps.toList e : Nat) : Int))), c'] ∨
      whileL (evT (callF Pr G0 D0 L k) G0 D0 (IB.val (IE.cmp CmpOp.Lt (IE.var 2) (IE.bi BI.len (IEs.cons (IE.var 0) IEs.nil))))) (xcs (callF Pr G0 D0 L k) G0 D0 fx L s_name_end_1) fuel [some (.val (.str z)), some p, some (.val (.int (e : Int))), c0] =
      .ok (.ret (.val (.int ((nmE z.cps.toList e : Nat) : Int)))) [some (.val (.str z)), some p, some (.val (.int ((nmE z.cps.toList e : Nat) : Int))), c']
  | m, 0, e, _, _, hf => by omega
  | m, fuel + 1, e, c0, hm, hf => by
    have hz1 : z.length ≤ sizeLine := le_size hz
    have h46 : isAl 46 = false := by decide +kernel
    by_cases hlt : e < z.cps.toList.length
    · have hc := List.getElem?_eq_getElem hlt
      generalize z.cps.toList[e] = c at hc
      have hat := at_str hc hz
      have hlt' : (e : Int) < z.length := by rw [TL.len_tl]; exact_mod_cast hlt
      have i1 := in_sign c "abcdefghijklmnopqrstuvwxyz"
      have i2 := in_sign c "0123456789"
      have eb : ∀ fl : Nat, whileL (evT (callF Pr G0 D0 L k) G0 D0 (IB.val (IE.cmp CmpOp.Lt (IE.var 2) (IE.bi BI.len (IEs.cons (IE.var 0) IEs.nil))))) (xcs (callF Pr G0 D0 L k) G0 D0 fx L s_name_end_1) (fl + 1) [some (.val (.str z)), some p, some (.val (.int (e : Int))), c0] =
          (xcs (callF Pr G0 D0 L k) G0 D0 fx L s_name_end_1 [some (.val (.str z)), some p, some (.val (.int (e : Int))), c0]).bind fun g e2 => match g with
            | .nxt => whileL (evT (callF Pr G0 D0 L k) G0 D0 (IB.val (IE.cmp CmpOp.Lt (IE.var 2) (IE.bi BI.len (IEs.cons (IE.var 0) IEs.nil))))) (xcs (callF Pr G0 D0 L k) G0 D0 fx L s_name_end_1) fl e2
            | .cnt => whileL (evT (callF Pr G0 D0 L k) G0 D0 (IB.val (IE.cmp CmpOp.Lt (IE.var 2) (IE.bi BI.len (IEs.cons (IE.var 0) IEs.nil))))) (xcs (callF Pr G0 D0 L k) G0 D0 fx L s_name_end_1) fl e2
            | .brk => .ok .nxt e2
            | .ret iv => .ok (.ret iv) e2 := fun fl => by
        simp [whileL, hlt', hz1]
        try rfl
      rw [eb]
      by_cases hd : isAl c = true
      · obtain ⟨m', rfl⟩ : ∃ m', m = m' + 1 := ⟨m - 1, by omega⟩
        have st : xcs (callF Pr G0 D0 L k) G0 D0 fx L s_name_end_1 [some (.val (.str z)), some p, some (.val (.int (e : Int))), c0] = .ok .nxt [some (.val (.str z)), some p, some (.val (.int ((e + 1 : Nat) : Int))), some (.val (.str ⟨#[c]⟩))] := by
          by_cases hl : c ∈ ("abcdefghijklmnopqrstuvwxyz" : Str).cps.toList
          · simp only [hl, decide_true] at i1
            simp [s_name_end_1, hat, i1, f2, f3, -s_ixR_4]
          · have hg : c ∈ ("0123456789" : Str).cps.toList := (isAl_or.mp hd).resolve_left hl
            simp only [hl, decide_false] at i1
            simp only [hg, decide_true] at i2
            simp [s_name_end_1, hat, i1, i2, f2, f3, -s_ixR_4]
        rw [st, s_bind_ok, nmE_al hc hd]
        exact name_loop hz p fx f2 f3 m' fuel (e + 1) _ (by omega) (by omega)
      · have hd : isAl c = false := by simpa using hd
        have n1 : ¬ c ∈ ("abcdefghijklmnopqrstuvwxyz" : Str).cps.toList := fun h => by rw [isAl_or.mpr (.inl h)] at hd; cases hd
        have n2 : ¬ c ∈ ("0123456789" : Str).cps.toList := fun h => by rw [isAl_or.mpr (.inr h)] at hd; cases hd
        simp only [n1, decide_false] at i1
        simp only [n2, decide_false] at i2
        by_cases hdot : c = 46 ∧ ∃ d, z.cps.toList[e + 1]? = some d ∧ isAl d = true
        · obtain ⟨rfl, d, hd2, had⟩ := hdot
          have hlt2 : e + 1 < z.cps.toList.length := (List.getElem?_eq_some_iff.mp hd2).1
          have hlt2' : (e : Int) + 1 < z.length := by rw [TL.len_tl]; exact_mod_cast hlt2
          have hat2 := at_str hd2 hz
          have hat2' : ixR (.str z) (.int ((e : Int) + 1)) = some (.str ⟨#[d]⟩) := by simpa using hat2
          have j1 := in_sign d "abcdefghijklmnopqrstuvwxyz"
          have j2 := in_sign d "0123456789"
          have st : xcs (callF Pr G0 D0 L k) G0 D0 fx L s_name_end_1 [some (.val (.str z)), some p, some (.val (.int (e : Int))), c0] = .ok .nxt [some (.val (.str z)), some p, some (.val (.int ((e + 2 : Nat) : Int))), some (.val (.str ⟨#[46]⟩))] := by
            have ed : (⟨#[46]⟩ : Str) = ("." : Str) := by decide +kernel
            by_cases hl : d ∈ ("abcdefghijklmnopqrstuvwxyz" : Str).cps.toList
            · simp only [hl, decide_true] at j1
              simp [s_name_end_1, hat, i1, i2, eqR_strs, sign_dot, hlt2', hat2', j1, hz1, f2, f3, -s_ixR_4]
            · have hg : d ∈ ("0123456789" : Str).cps.toList := (isAl_or.mp had).resolve_left hl
              simp only [hl, decide_false] at j1
              simp only [hg, decide_true] at j2
              simp [s_name_end_1, hat, i1, i2, eqR_strs, sign_dot, hlt2', hat2', j1, j2, hz1, f2, f3, -s_ixR_4]
          rw [st, s_bind_ok, nmE_dot hc hd2 had]
          exact name_loop hz p fx f2 f3 (m - 1) fuel (e + 2) _ (by omega) (by omega)
        · have st : xcs (callF Pr G0 D0 L k) G0 D0 fx L s_name_end_1 [some (.val (.str z)), some p, some (.val (.int (e : Int))), c0] = .ok (.ret (.val (.int (e : Int)))) [some (.val (.str z)), some p, some (.val (.int (e : Int))), some (.val (.str ⟨#[c]⟩))] := by
            by_cases h4 : c = 46
            · subst h4
              by_cases hlt2 : e + 1 < z.cps.toList.length
              · have hlt2' : (e : Int) + 1 < z.length := by rw [TL.len_tl]; exact_mod_cast hlt2
                have hd2 := List.getElem?_eq_getElem hlt2
                generalize z.cps.toList[e + 1] = d at hd2
                have had : ¬ isAl d = true := fun h => hdot ⟨rfl, d, hd2, h⟩
                have hat2 := at_str hd2 hz
                have hat2' : ixR (.str z) (.int ((e : Int) + 1)) = some (.str ⟨#[d]⟩) := by simpa using hat2
                have j1 := in_sign d "abcdefghijklmnopqrstuvwxyz"
                have j2 := in_sign d "0123456789"
                have n3 : ¬ d ∈ ("abcdefghijklmnopqrstuvwxyz" : Str).cps.toList := fun h => had (isAl_or.mpr (.inl h))
                have n4 : ¬ d ∈ ("0123456789" : Str).cps.toList := fun h => had (isAl_or.mpr (.inr h))
                simp only [n3, decide_false] at j1
                simp only [n4, decide_false] at j2
                simp [s_name_end_1, hat, i1, i2, eqR_strs, sign_dot, hlt2', hat2', j1, j2, hz1, f2, f3, -s_ixR_4]
              · have hlt2' : ¬ (e : Int) + 1 < z.length := by rw [TL.len_tl]; intro h; exact hlt2 (by exact_mod_cast h)
                simp [s_name_end_1, hat, i1, i2, eqR_strs, sign_dot, hlt2', hz1, f2, f3, -s_ixR_4]
            · simp [s_name_end_1, hat, i1, i2, eqR_strs, sign_dot, h4, hz1, f2, f3, -s_ixR_4]
          rw [st, s_bind_ok, nmE_stop hc hd hdot]
          exact ⟨_, .inr rfl⟩
    · have hlt' : ¬ (e : Int) < z.length := by rw [TL.len_tl]; intro h; exact hlt (by exact_mod_cast h)
      rw [nmE_end (by omega)]
      exact ⟨c0, .inl (by simp [whileL, hlt', hz1])⟩
theorem name_end_spec {z : Str} (hz : z.length ≤ 100000) (hL : z.length < L) (e : Nat) : callF Pr G0 D0 L (k + 1) 117 [.val (.str z), .val (.int (e : Int))] = .ok (.val (.int ((nmE z.cps.toList (e + 1) : Nat) : Int))) [.val (.str z), .val (.int (e : Int))] := by
  rw [callF_succ (f := ⟨2, 4, b_name_end⟩) rfl rfl]
  obtain ⟨c', hw⟩ := name_loop k L hz (.val (.int (e : Int))) (fxOf [.val (.str z), .val (.int (e : Int))]) rfl rfl z.length L (e + 1) none (by rw [← TL.len_tl]; omega) hL
  rcases hw with hw | hw
  · have hw' : xc (callF Pr G0 D0 L k) G0 D0 (fxOf [.val (.str z), .val (.int (e : Int))]) L f_name_end_1 [some (.val (.str z)), some (.val (.int (e : Int))), some (.val (.int ((e + 1 : Nat) : Int))), none] = _ := hw
    have e1 : ((e + 1 : Nat) : Int) = (e : Int) + 1 := by omega
    rw [e1] at hw'
    simp [b_name_end, hw']
  · have hw' : xc (callF Pr G0 D0 L k) G0 D0 (fxOf [.val (.str z), .val (.int (e : Int))]) L f_name_end_1 [some (.val (.str z)), some (.val (.int (e : Int))), some (.val (.int ((e + 1 : Nat) : Int))), none] = _ := hw
    have e1 : ((e + 1 : Nat) : Int) = (e : Int) + 1 := by omega
    rw [e1] at hw'
    simp [b_name_end, hw']
/-! ## the sign at a place -/
def signs : List Str := [":=", "<=", ">=", "==", "<", ">", "+", "-", "/", "(", ")", ",", "|", ":"]
def piece (xs : List Nat) (a b : Nat) : Str := ⟨((xs.drop a).take (b - a)).toArray⟩
theorem cut_str {z : Str} {a : Nat} (b : Nat) (ha : a ≤ z.length) : cutS z (some (a : Int)) (some (b : Int)) = piece z.cps.toList a b := by
  unfold cutS piece
  rw [HT.sIx_nat, HT.sIx_nat, Nat.min_eq_left ha]
  have hn : z.cps.toList.length = z.length := (TL.len_tl z).symm
  rcases Nat.le_total b z.length with h | h
  · rw [Nat.min_eq_left h]
  · rw [Nat.min_eq_right h, List.take_of_length_le (by rw [List.length_drop]; omega), List.take_of_length_le (by rw [List.length_drop]; omega)]
def sgAt (xs : List Nat) (e : Nat) : Str := (signs.find? fun s => decide (piece xs e (e + s.length) = s)).getD ""
theorem sign_loop2 {z : Str} (hz : z.length ≤ 100000) {e : Nat} (he : e ≤ z.length) (fx : Nat → Bool) (f2 : fx 2 = false) : ∀ (ss : List Str) (c : Option Iv), (∀ s ∈ ss, s.length ≤ 100) →
    (∀ s, (ss.find? fun s => decide (piece z.cps.toList e (e + s.length) = s)) = some s → forL fx (.name 2) (xcs (callF Pr G0 D0 L k) G0 D0 fx L s_sign_at_1) (ss.map T.str) [some (.val (.str z)), some (.val (.int (e : Int))), c] = .ok (.ret (.val (.str s))) [some (.val (.str z)), some (.val (.int (e : Int))), some (.val (.str s))]) ∧
    ((ss.find? fun s => decide (piece z.cps.toList e (e + s.length) = s)) = none → ∃ c', forL fx (.name 2) (xcs (callF Pr G0 D0 L k) G0 D0 fx L s_sign_at_1) (ss.map T.str) [some (.val (.str z)), some (.val (.int (e : Int))), c] = .ok .nxt [some (.val (.str z)), some (.val (.int (e : Int))), c'])
  | [], c, _ => ⟨fun s h => by simp at h, fun _ => ⟨c, rfl⟩⟩
  | s0 :: ss, c, hs => by
    have hz1 : z.length ≤ sizeLine := le_size hz
    have hs0 : s0.length ≤ sizeLine := le_size (Nat.le_trans (hs s0 List.mem_cons_self) (by decide))
    have hb : bindT fx (.name 2) (T.str s0) [some (.val (.str z)), some (.val (.int (e : Int))), c] = some [some (.val (.str z)), some (.val (.int (e : Int))), some (.val (.str s0))] := by simp [f2]
    have hcut : cutS z (some (e : Int)) (some ((e : Int) + (s0.length : Int))) = piece z.cps.toList e (e + s0.length) := by
      have := cut_str (e + s0.length) he
      rw [← this]
      congr 2
    by_cases hp : piece z.cps.toList e (e + s0.length) = s0
    · have hf : (s0 :: ss).find? (fun s => decide (piece z.cps.toList e (e + s.length) = s)) = some s0 := by rw [List.find?_cons_of_pos (by simpa using hp)]
      rw [hf]
      refine ⟨fun s h => ?_, fun h => by cases h⟩
      cases h
      have st : xcs (callF Pr G0 D0 L k) G0 D0 fx L s_sign_at_1 [some (.val (.str z)), some (.val (.int (e : Int))), some (.val (.str s0))] = .ok (.ret (.val (.str s0))) [some (.val (.str z)), some (.val (.int (e : Int))), some (.val (.str s0))] := by
        simp [s_sign_at_1, hz1, hs0, hcut, eqR_strs, hp]
      simp only [List.map_cons, forL, hb, st, s_bind_ok]
    · have hf : (s0 :: ss).find? (fun s => decide (piece z.cps.toList e (e + s.length) = s)) = ss.find? fun s => decide (piece z.cps.toList e (e + s.length) = s) := by rw [List.find?_cons_of_neg (by simpa using hp)]
      rw [hf]
      have st : xcs (callF Pr G0 D0 L k) G0 D0 fx L s_sign_at_1 [some (.val (.str z)), some (.val (.int (e : Int))), some (.val (.str s0))] = .ok .nxt [some (.val (.str z)), some (.val (.int (e : Int))), some (.val (.str s0))] := by
        simp [s_sign_at_1, hz1, hs0, hcut, eqR_strs, hp]
      obtain ⟨q1, q2⟩ := sign_loop2 hz he fx f2 ss (some (.val (.str s0))) fun s h => hs s (List.mem_cons_of_mem _ h)
      refine ⟨fun s h => ?_, fun h => ?_⟩
      · simp only [List.map_cons, forL, hb, st, s_bind_ok]; exact q1 s h
      · simp only [List.map_cons, forL, hb, st, s_bind_ok]; exact q2 h
theorem sign_at_spec {z : Str} (hz : z.length ≤ 100000) {e : Nat} (he : e ≤ z.length) : callF Pr G0 D0 L (k + 1) 119 [.val (.str z), .val (.int (e : Int))] = .ok (.val (.str (sgAt z.cps.toList e))) [.val (.str z), .val (.int (e : Int))] := by
  rw [callF_succ (f := ⟨2, 3, b_sign_at⟩) rfl rfl]
  obtain ⟨q1, q2⟩ := sign_loop2 k L hz he (fxOf [.val (.str z), .val (.int (e : Int))]) rfl signs none (by
    have : (signs.all fun s => decide (s.length ≤ 100)) = true := by decide +kernel
    simpa using this)
  have hsrc : evSrc (callF Pr G0 D0 L k) G0 D0 (Src.seq (IE.glob 2)) [some (.val (.str z)), some (.val (.int (e : Int))), none] = .ok (signs.map T.str, none) [some (.val (.str z)), some (.val (.int (e : Int))), none] := by
    simp [signs]
  unfold sgAt
  cases hf : signs.find? fun s => decide (piece z.cps.toList e (e + s.length) = s) with
  | some s =>
    have hw : xc (callF Pr G0 D0 L k) G0 D0 (fxOf [.val (.str z), .val (.int (e : Int))]) L f_sign_at_1 [some (.val (.str z)), some (.val (.int (e : Int))), none] = _ := for_ok hsrc (q1 s hf)
    simp at hw
    simp [b_sign_at, hw]
  | none =>
    obtain ⟨c', q⟩ := q2 hf
    have hw : xc (callF Pr G0 D0 L k) G0 D0 (fxOf [.val (.str z), .val (.int (e : Int))]) L f_sign_at_1 [some (.val (.str z)), some (.val (.int (e : Int))), none] = _ := for_ok hsrc q
    simp at hw
    simp [b_sign_at, hw]
end G
namespace G
open PySem PySem.Spec PyProof.Rows L2

/-! # words_of (140) -/
inductive LexO where
  | ok (ws : List Str)
  | bad
  | out
def lexW (xs : List Nat) : Nat → Nat → List Str → LexO
  | 0, _, _ => .out
  | f + 1, e, ws => match xs[e]? with
    | none => .ok ws
    | some c => if c = 32 then lexW xs f (e + 1) ws
      else if isLet c = true then lexW xs f (nmE xs (e + 1)) (ws ++ [piece xs e (nmE xs (e + 1))])
      else if isDig c = true then lexW xs f (numE xs e) (ws ++ [piece xs e (numE xs e)])
      else if sgAt xs e = "" then .bad else lexW xs f (e + (sgAt xs e).length) (ws ++ [sgAt xs e])
theorem nmL_le : ∀ xs : List Nat, nmL xs ≤ xs.length
  | [] => by simp [nmL]
  | [c] => by simp only [nmL]; split <;> simp
  | c :: d :: r => by
    have h1 := nmL_le (d :: r)
    have h2 := nmL_le r
    simp only [nmL]
    split
    · simp only [List.length_cons] at h1 ⊢; omega
    · split
      · simp only [List.length_cons]; omega
      · simp
theorem nmE_le {xs : List Nat} {e : Nat} (h : e ≤ xs.length) : e ≤ nmE xs e ∧ nmE xs e ≤ xs.length := by
  have := nmL_le (xs.drop e)
  rw [List.length_drop] at this
  unfold nmE
  omega
theorem numE_le {xs : List Nat} {e : Nat} (h : e ≤ xs.length) : e ≤ numE xs e ∧ numE xs e ≤ xs.length := by
  have := (List.takeWhile_sublist (p := isDig) (l := xs.drop e)).length_le
  rw [List.length_drop] at this
  unfold numE
  omega
theorem numE_gt {xs : List Nat} {e c : Nat} (h : xs[e]? = some c) (hd : isDig c = true) : e < numE xs e := by
  rw [numE_step h hd]
  have hlt := (List.getElem?_eq_some_iff.mp h).1
  have := (numE_le (xs := xs) (e := e + 1) (by omega)).1
  omega
theorem sgAt_len {xs : List Nat} {e : Nat} (h : sgAt xs e ≠ "") : 0 < (sgAt xs e).length ∧ e + (sgAt xs e).length ≤ xs.length ∧ (sgAt xs e).length ≤ 100 := by
  unfold sgAt at h ⊢
  cases hf : signs.find? fun s => decide (piece xs e (e + s.length) = s) with
  | none => rw [hf] at h; exact absurd rfl h
  | some s =>
    have hm := List.mem_of_find?_eq_some hf
    have hp : piece xs e (e + s.length) = s := by simpa using List.find?_some hf
    have h1 : (signs.all fun s => decide (0 < s.length ∧ s.length ≤ 100)) = true := by decide +kernel
    rw [List.all_eq_true] at h1
    have h2 := h1 s hm
    simp only [decide_eq_true_eq] at h2
    show 0 < s.length ∧ e + s.length ≤ xs.length ∧ s.length ≤ 100
    refine ⟨h2.1, ?_, h2.2⟩
    have h3 : (piece xs e (e + s.length)).length = s.length := by rw [hp]
    unfold piece at h3
    have h4 : (⟨((xs.drop e).take (e + s.length - e)).toArray⟩ : Str).length = ((xs.drop e).take (e + s.length - e)).length := rfl
    rw [h4, List.length_take, List.length_drop] at h3
    omega
variable (k L : Nat)
def bdX (n : Int) (f : Str) : Xv := .usr "BadText" [("fault", .str f), ("line", .int n)]
def wEnv (z : Str) (n : Int) (ws : List Str) (e : Nat) (a b c : Option Iv) : Env := [some (.val (.str z)), some (.val (.int n)), some (.own (.lst (ws.map T.str))), some (.val (.int (e : Int))), a, b, c]
theorem sign_sp (c : Nat) : ((⟨#[c]⟩ : Str) = (" " : Str)) = (c = 32) := by
  apply propext
  constructor
  · intro h
    have : (⟨#[c]⟩ : Str).cps = (⟨#[32]⟩ : Str).cps := congrArg Str.cps (h.trans (by decide +kernel))
    simpa using this
  · rintro rfl; decide +kernel
theorem raise_bd (n : Int) (hn : 0 ≤ n ∧ n ≤ 1000) (f : Str) (hf : f.length ≤ 100) (env : Env) : raiseR "BadText" ["line", "fault"] (IE.fstr (IEs.cons (IE.str "line ") (IEs.cons (IE.var 1) (IEs.cons (IE.str ": ") (IEs.cons (IE.var 2) IEs.nil))))) [T.int n, T.str f] env = .exc (bdX n f) env := by
  have h1 : n.natAbs.log2 < 20 := by
    by_cases h0 : n.natAbs = 0
    · rw [h0]; decide
    · exact (Nat.log2_lt h0).mpr (by omega)
  have h2 : n.natAbs.log2 < 1920 := by omega
  have h3 : (Str.ofString (toString n)).length ≤ 100 := by
    have h4 := int_text_length_le (a := n) (k := 20) (by decide) h1
    have h5 : (Str.ofString (toString n)).length = (toString n).length := PySem.ofString_length _
    omega
  have app : ∀ a b : Str, (a ++ b).length = a.length + b.length := fun a b => by
    rw [TL.len_tl, TL.len_tl a, TL.len_tl b, TL.tl_append, List.length_append]
  have k1 : ("line " : Str).length = 5 := by decide +kernel
  have k2 : (": " : Str).length = 2 := by decide +kernel
  have k3 : (Str.empty : Str).length = 0 := rfl
  have s0 : (300 : Nat) ≤ sizeLine := by decide
  have hm : msgOk (IE.fstr (IEs.cons (IE.str "line ") (IEs.cons (IE.var 1) (IEs.cons (IE.str ": ") (IEs.cons (IE.var 2) IEs.nil))))) [T.int n, T.str f] = true := by
    have a1 : ("line " : Str).length ≤ sizeLine ∧ (Str.empty ++ ("line " : Str)).length ≤ sizeLine := by rw [app, k1, k3]; omega
    have a2 : n.natAbs.log2 < 1920 ∧ (Str.empty ++ ("line " : Str) ++ (Str.ofString (toString n))).length ≤ sizeLine := by rw [app, app, k1, k3]; omega
    have a3 : (": " : Str).length ≤ sizeLine ∧ (Str.empty ++ ("line " : Str) ++ (Str.ofString (toString n)) ++ (": " : Str)).length ≤ sizeLine := by rw [app, app, app, k1, k2, k3]; omega
    have a4 : f.length ≤ sizeLine ∧ (Str.empty ++ ("line " : Str) ++ (Str.ofString (toString n)) ++ (": " : Str) ++ f).length ≤ sizeLine := by rw [app, app, app, app, k1, k2, k3]; omega
    have j : joinF [T.str "line ", T.int n, T.str ": ", T.str f] Str.empty = some (Str.empty ++ ("line " : Str) ++ (Str.ofString (toString n)) ++ (": " : Str) ++ f) := by
      unfold joinF
      rw [if_pos a1]
      unfold joinF
      rw [if_pos a2]
      unfold joinF
      rw [if_pos a3]
      unfold joinF
      rw [if_pos a4]
      rfl
    unfold msgOk
    have e : ev C0 GN DN (IE.fstr (IEs.cons (IE.str "line ") (IEs.cons (IE.var 1) (IEs.cons (IE.str ": ") (IEs.cons (IE.var 2) IEs.nil))))) (none :: (([T.int n, T.str f].map fun t => some (Iv.val t)) ++ [none])) = .ok (.val (.str (Str.empty ++ ("line " : Str) ++ (Str.ofString (toString n)) ++ (": " : Str) ++ f))) (none :: (([T.int n, T.str f].map fun t => some (Iv.val t)) ++ [none])) := by
      simp [valsR, j]
    rw [e]
  simp [raiseR, hm, lvs, lv, bdX]
theorem words_step {z : Str} (hz : z.length ≤ 50000) (hL : z.length < L) {n : Int} (hn : 0 ≤ n ∧ n ≤ 1000) (fx : Nat → Bool) (f2 : fx 2 = false) (f3 : fx 3 = false) (f4 : fx 4 = false) (f5 : fx 5 = false) (f6 : fx 6 = false) {e c : Nat} (hc : z.cps.toList[e]? = some c) {ws : List Str} (hw : ws.length ≤ 50000) (a b d : Option Iv) :
    (c = 32 → ∃ a' b' d', xcs (callF Pr G0 D0 L (k + 1)) G0 D0 fx L s_words_of_140_1 (wEnv z n ws e a b d) = .ok .nxt (wEnv z n ws (e + 1) a' b' d')) ∧
    (c ≠ 32 → isLet c = true → ∃ a' b' d', xcs (callF Pr G0 D0 L (k + 1)) G0 D0 fx L s_words_of_140_1 (wEnv z n ws e a b d) = .ok .nxt (wEnv z n (ws ++ [piece z.cps.toList e (nmE z.cps.toList (e + 1))]) (nmE z.cps.toList (e + 1)) a' b' d')) ∧
    (c ≠ 32 → isLet c = false → isDig c = true → ∃ a' b' d', xcs (callF Pr G0 D0 L (k + 1)) G0 D0 fx L s_words_of_140_1 (wEnv z n ws e a b d) = .ok .nxt (wEnv z n (ws ++ [piece z.cps.toList e (numE z.cps.toList e)]) (numE z.cps.toList e) a' b' d')) ∧
    (c ≠ 32 → isLet c = false → isDig c = false → sgAt z.cps.toList e ≠ "" → ∃ a' b' d', xcs (callF Pr G0 D0 L (k + 1)) G0 D0 fx L s_words_of_140_1 (wEnv z n ws e a b d) = .ok .nxt (wEnv z n (ws ++ [sgAt z.cps.toList e]) (e + (sgAt z.cps.toList e).length) a' b' d')) ∧
    (c ≠ 32 → isLet c = false → isDig c = false → sgAt z.cps.toList e = "" → ∃ a' b' d', xcs (callF Pr G0 D0 L (k + 1)) G0 D0 fx L s_words_of_140_1 (wEnv z n ws e a b d) = .exc (bdX n "sign") (wEnv z n ws e a' b' d')) := by
  have hz1 : z.length ≤ sizeLine := le_size (by omega)
  have hzz : z.length ≤ 100000 := by omega
  have hw1 : ws.length < sizeLine := lt_size (by omega)
  have hlt := (List.getElem?_eq_some_iff.mp hc).1
  have hle : e ≤ z.length := by have h0 : z.length = z.cps.toList.length := TL.len_tl z; omega
  have hat := at_str hc hzz
  have i1 := in_sign c "abcdefghijklmnopqrstuvwxyz"
  have i2 := in_sign c "0123456789"
  have hne := name_end_spec k L hzz hL e
  have hnu := number_end_spec k L hzz hL e
  have hsg := sign_at_spec k L hzz hle
  have cutN : cutS z (some (e : Int)) (some ((nmE z.cps.toList (e + 1) : Nat) : Int)) = piece z.cps.toList e (nmE z.cps.toList (e + 1)) := cut_str _ hle
  have cutD : cutS z (some (e : Int)) (some ((numE z.cps.toList e : Nat) : Int)) = piece z.cps.toList e (numE z.cps.toList e) := cut_str _ hle
  refine ⟨fun h => ?_, fun h h1 => ?_, fun h h1 h2 => ?_, fun h h1 h2 h3 => ?_, fun h h1 h2 h3 => ?_⟩
  · subst h
    refine ⟨some (.val (.str ⟨#[32]⟩)), b, d, ?_⟩
    simp [s_words_of_140_1, wEnv, hat, eqR_strs, sign_sp, f3, f4, -s_ixR_4]
  · have m1 : c ∈ ("abcdefghijklmnopqrstuvwxyz" : Str).cps.toList := by simpa [isLet, lets] using h1
    simp only [m1, decide_true] at i1
    generalize nmE z.cps.toList (e + 1) = E at *
    refine ⟨some (.val (.str ⟨#[c]⟩)), some (.val (.int (E : Int))), d, ?_⟩
    simp [s_words_of_140_1, wEnv, hat, eqR_strs, sign_sp, h, i1, hne, hz1, cutN, hw1, f3, f4, f5, -s_ixR_4]
  · have m1 : ¬ c ∈ ("abcdefghijklmnopqrstuvwxyz" : Str).cps.toList := by simpa [isLet, lets] using h1
    have m2 : c ∈ ("0123456789" : Str).cps.toList := by simpa [isDig, digs] using h2
    simp only [m1, decide_false] at i1
    simp only [m2, decide_true] at i2
    generalize numE z.cps.toList e = E at *
    refine ⟨some (.val (.str ⟨#[c]⟩)), some (.val (.int (E : Int))), d, ?_⟩
    simp [s_words_of_140_1, wEnv, hat, eqR_strs, sign_sp, h, i1, i2, hnu, hz1, cutD, hw1, f3, f4, f5, -s_ixR_4]
  · have m1 : ¬ c ∈ ("abcdefghijklmnopqrstuvwxyz" : Str).cps.toList := by simpa [isLet, lets] using h1
    have m2 : ¬ c ∈ ("0123456789" : Str).cps.toList := by simpa [isDig, digs] using h2
    simp only [m1, decide_false] at i1
    simp only [m2, decide_false] at i2
    have hl := (sgAt_len h3).2.2
    generalize sgAt z.cps.toList e = S at *
    have hl2 : S.length ≤ sizeLine := le_size (by omega)
    refine ⟨some (.val (.str ⟨#[c]⟩)), b, some (.val (.str S)), ?_⟩
    simp [s_words_of_140_1, wEnv, hat, eqR_strs, sign_sp, h, i1, i2, hsg, h3, hl2, hw1, f3, f4, f6, -s_ixR_4]
  · have m1 : ¬ c ∈ ("abcdefghijklmnopqrstuvwxyz" : Str).cps.toList := by simpa [isLet, lets] using h1
    have m2 : ¬ c ∈ ("0123456789" : Str).cps.toList := by simpa [isDig, digs] using h2
    simp only [m1, decide_false] at i1
    simp only [m2, decide_false] at i2
    rw [h3] at hsg
    have hr := raise_bd n hn "sign" (by decide +kernel)
    refine ⟨some (.val (.str ⟨#[c]⟩)), b, some (.val (.str "")), ?_⟩
    simp [s_words_of_140_1, wEnv, hat, eqR_strs, sign_sp, h, i1, i2, hsg, valsR, hr, f3, f4, f6, -s_ixR_4]
end G
namespace G
open PySem PySem.Spec PyProof.Rows L2

variable (k L : Nat)
abbrev wCond : IB := IB.val (IE.cmp CmpOp.Lt (IE.var 3) (IE.bi BI.len (IEs.cons (IE.var 0) IEs.nil)))
theorem words_loop {z : Str} (hz : z.length ≤ 50000) (hL : z.length < L) {n : Int} (hn : 0 ≤ n ∧ n ≤ 1000) (fx : Nat → Bool) (f2 : fx 2 = false) (f3 : fx 3 = false) (f4 : fx 4 = false) (f5 : fx 5 = false) (f6 : fx 6 = false) : ∀ (fuel e : Nat) (ws : List Str) (a b d : Option Iv), e ≤ z.length → ws.length ≤ e →
    (∀ ws', lexW z.cps.toList fuel e ws = .ok ws' → ∃ e' a' b' d', whileL (evT (callF Pr G0 D0 L (k + 1)) G0 D0 wCond) (xcs (callF Pr G0 D0 L (k + 1)) G0 D0 fx L s_words_of_140_1) fuel (wEnv z n ws e a b d) = .ok .nxt (wEnv z n ws' e' a' b' d')) ∧
    (lexW z.cps.toList fuel e ws = .bad → ∃ ws' e' a' b' d', whileL (evT (callF Pr G0 D0 L (k + 1)) G0 D0 wCond) (xcs (callF Pr G0 D0 L (k + 1)) G0 D0 fx L s_words_of_140_1) fuel (wEnv z n ws e a b d) = .exc (bdX n "sign") (wEnv z n ws' e' a' b' d'))
  | 0, e, ws, a, b, d, _, _ => ⟨fun ws' h => by simp [lexW] at h, fun h => by simp [lexW] at h⟩
  | fuel + 1, e, ws, a, b, d, he, hw => by
    have hz1 : z.length ≤ sizeLine := le_size (by omega)
    have hlen : z.length = z.cps.toList.length := TL.len_tl z
    cases hc : z.cps.toList[e]? with
    | none =>
      have hge : z.cps.toList.length ≤ e := List.getElem?_eq_none_iff.mp hc
      have hlt : ¬ (e : Int) < z.length := by omega
      refine ⟨fun ws' h => ?_, fun h => by simp [lexW, hc] at h⟩
      simp only [lexW, hc, LexO.ok.injEq] at h
      subst h
      exact ⟨e, a, b, d, by simp [whileL, wEnv, hlt, hz1]⟩
    | some c =>
      have hlt0 := (List.getElem?_eq_some_iff.mp hc).1
      have hlt : (e : Int) < z.length := by omega
      obtain ⟨p1, p2, p3, p4, p5⟩ := words_step k L hz hL hn fx f2 f3 f4 f5 f6 hc (ws := ws) (by omega) a b d
      have eb : whileL (evT (callF Pr G0 D0 L (k + 1)) G0 D0 wCond) (xcs (callF Pr G0 D0 L (k + 1)) G0 D0 fx L s_words_of_140_1) (fuel + 1) (wEnv z n ws e a b d) = (xcs (callF Pr G0 D0 L (k + 1)) G0 D0 fx L s_words_of_140_1 (wEnv z n ws e a b d)).bind fun g e2 => match g with
            | .nxt => whileL (evT (callF Pr G0 D0 L (k + 1)) G0 D0 wCond) (xcs (callF Pr G0 D0 L (k + 1)) G0 D0 fx L s_words_of_140_1) fuel e2
            | .cnt => whileL (evT (callF Pr G0 D0 L (k + 1)) G0 D0 wCond) (xcs (callF Pr G0 D0 L (k + 1)) G0 D0 fx L s_words_of_140_1) fuel e2
            | .brk => .ok .nxt e2
            | .ret iv => .ok (.ret iv) e2 := by
        have hcond : evT (callF Pr G0 D0 L (k + 1)) G0 D0 wCond (wEnv z n ws e a b d) = .ok true (wEnv z n ws e a b d) := by simp [wEnv, hlt, hz1]
        simp only [whileL, hcond, s_bind_ok, if_true]
        try rfl
      rw [eb]
      simp only [lexW, hc]
      by_cases h1 : c = 32
      · obtain ⟨a', b', d', st⟩ := p1 h1
        rw [st, s_bind_ok, if_pos h1]
        exact words_loop hz hL hn fx f2 f3 f4 f5 f6 fuel (e + 1) ws a' b' d' (by omega) (by omega)
      · rw [if_neg h1]
        cases h2 : isLet c with
        | true =>
          obtain ⟨a', b', d', st⟩ := p2 h1 h2
          have hE := nmE_le (xs := z.cps.toList) (e := e + 1) (by omega)
          rw [st, s_bind_ok, if_pos rfl]
          exact words_loop hz hL hn fx f2 f3 f4 f5 f6 fuel _ _ a' b' d' (by omega) (by rw [List.length_append, List.length_singleton]; omega)
        | false =>
          rw [if_neg (by simp)]
          cases h3 : isDig c with
          | true =>
            obtain ⟨a', b', d', st⟩ := p3 h1 h2 h3
            have hE := numE_le (xs := z.cps.toList) (e := e) (by omega)
            have hG := numE_gt hc h3
            rw [st, s_bind_ok, if_pos rfl]
            exact words_loop hz hL hn fx f2 f3 f4 f5 f6 fuel _ _ a' b' d' (by omega) (by rw [List.length_append, List.length_singleton]; omega)
          | false =>
            rw [if_neg (by simp)]
            by_cases h4 : sgAt z.cps.toList e = ""
            · obtain ⟨a', b', d', st⟩ := p5 h1 h2 h3 h4
              rw [st, s_bind_exc, if_pos h4]
              exact ⟨(fun ws' h => by cases h), fun _ => ⟨ws, e, a', b', d', rfl⟩⟩
            · obtain ⟨a', b', d', st⟩ := p4 h1 h2 h3 h4
              have hS := sgAt_len h4
              rw [st, s_bind_ok, if_neg h4]
              exact words_loop hz hL hn fx f2 f3 f4 f5 f6 fuel _ _ a' b' d' (by omega) (by rw [List.length_append, List.length_singleton]; omega)
theorem words_of_ok {z : Str} (hz : z.length ≤ 50000) (hL : z.length < L) {n : Int} (hn : 0 ≤ n ∧ n ≤ 1000) {ws : List Str} (h : lexW z.cps.toList L 0 [] = .ok ws) (hne : ws ≠ []) : callF Pr G0 D0 L (k + 2) 140 [.val (.str z), .val (.int n)] = .ok (.val (.tup (ws.map T.str))) [.val (.str z), .val (.int n)] := by
  obtain ⟨e', a', b', d', hw⟩ := (words_loop k L hz hL hn (fxOf [.val (.str z), .val (.int n)]) rfl rfl rfl rfl rfl L 0 [] none none none (by omega) (by simp)).1 ws h
  have hw' : xc (callF Pr G0 D0 L (k + 1)) G0 D0 (fxOf [.val (.str z), .val (.int n)]) L f_words_of_140_1 (wEnv z n [] 0 none none none) = _ := hw
  rw [callF_succ (f := ⟨2, 7, b_words_of_140⟩) rfl rfl]
  simp [wEnv] at hw'
  simp [b_words_of_140, hw', hne]
theorem words_of_bad {z : Str} (hz : z.length ≤ 50000) (hL : z.length < L) {n : Int} (hn : 0 ≤ n ∧ n ≤ 1000) (h : lexW z.cps.toList L 0 [] = .bad) : callF Pr G0 D0 L (k + 2) 140 [.val (.str z), .val (.int n)] = .exc (bdX n "sign") [.val (.str z), .val (.int n)] := by
  obtain ⟨ws', e', a', b', d', hw⟩ := (words_loop k L hz hL hn (fxOf [.val (.str z), .val (.int n)]) rfl rfl rfl rfl rfl L 0 [] none none none (by omega) (by simp)).2 h
  have hw' : xc (callF Pr G0 D0 L (k + 1)) G0 D0 (fxOf [.val (.str z), .val (.int n)]) L f_words_of_140_1 (wEnv z n [] 0 none none none) = _ := hw
  rw [callF_succ (f := ⟨2, 7, b_words_of_140⟩) rfl rfl]
  simp [wEnv] at hw'
  simp [b_words_of_140, hw']
theorem words_of_empty {z : Str} (hz : z.length ≤ 50000) (hL : z.length < L) {n : Int} (hn : 0 ≤ n ∧ n ≤ 1000) (h : lexW z.cps.toList L 0 [] = .ok []) : callF Pr G0 D0 L (k + 2) 140 [.val (.str z), .val (.int n)] = .exc (bdX n "empty") [.val (.str z), .val (.int n)] := by
  obtain ⟨e', a', b', d', hw⟩ := (words_loop k L hz hL hn (fxOf [.val (.str z), .val (.int n)]) rfl rfl rfl rfl rfl L 0 [] none none none (by omega) (by simp)).1 [] h
  have hw' : xc (callF Pr G0 D0 L (k + 1)) G0 D0 (fxOf [.val (.str z), .val (.int n)]) L f_words_of_140_1 (wEnv z n [] 0 none none none) = _ := hw
  have hr := raise_bd n hn "empty" (by decide +kernel)
  rw [callF_succ (f := ⟨2, 7, b_words_of_140⟩) rfl rfl]
  simp [wEnv] at hw'
  simp [b_words_of_140, hw', valsR, hr]
end G
namespace G
open PySem PySem.Spec PyProof.Rows L2

/-! # the cursor -/
def curO (ws : List Str) (n : Int) (p : Nat) : Ow := .obj "Cursor" [(.inr "words", .tup (ws.map T.str)), (.inr "line", .int n), (.inr "place", .int (p : Int))]
def wordAt (ws : List Str) (p : Nat) : Str := ws.getD p ""
variable (k L : Nat)
theorem v_words (ws : List Str) (n : Int) (p : Int) : valT [(.inr "words", .tup (ws.map T.str)), (.inr "line", .int n), (.inr "place", .int p)] (.inr "words") = some (.tup (ws.map T.str)) := by simp [valT]
theorem v_line (ws : List Str) (n : Int) (p : Int) : valT [(.inr "words", .tup (ws.map T.str)), (.inr "line", .int n), (.inr "place", .int p)] (.inr "line") = some (.int n) := by
  have : ¬ ((Sum.inr ("words" : Str) : Key) = Sum.inr ("line" : Str)) := by decide +kernel
  simp [valT, this]
theorem v_place (ws : List Str) (n : Int) (p : Int) : valT [(.inr "words", .tup (ws.map T.str)), (.inr "line", .int n), (.inr "place", .int p)] (.inr "place") = some (.int p) := by
  have h1 : ¬ ((Sum.inr ("words" : Str) : Key) = Sum.inr ("place" : Str)) := by decide +kernel
  have h2 : ¬ ((Sum.inr ("line" : Str) : Key) = Sum.inr ("place" : Str)) := by decide +kernel
  simp [valT, h1, h2]
theorem p_place (ws : List Str) (n : Int) (p q : Int) : putO (.inr "place") (.int q) [(.inr "words", .tup (ws.map T.str)), (.inr "line", .int n), (.inr "place", .int p)] = [(.inr "words", .tup (ws.map T.str)), (.inr "line", .int n), (.inr "place", .int q)] := by
  have h1 : ¬ ((Sum.inr ("words" : Str) : Key) = Sum.inr ("place" : Str)) := by decide +kernel
  have h2 : ¬ ((Sum.inr ("line" : Str) : Key) = Sum.inr ("place" : Str)) := by decide +kernel
  simp [putO, h1, h2]
theorem v_no (m : Str) (hm : (["words", "line", "place"] : List Str).all (fun x => decide (x ≠ m)) = true) (ws : List Str) (n : Int) (p : Int) : valT [(.inr "words", .tup (ws.map T.str)), (.inr "line", .int n), (.inr "place", .int p)] (.inr m) = none := by
  simp only [List.all_cons, List.all_nil, Bool.and_true, Bool.and_eq_true, decide_eq_true_eq] at hm
  simp [valT, hm.1, hm.2.1, hm.2.2]
theorem peek_spec (ws : List Str) (n : Int) (p : Nat) (hw : ws.length ≤ 1000) : callF Pr G0 D0 L (k + 1) 147 [.own (curO ws n p)] = .ok (.val (.str (wordAt ws p))) [.own (curO ws n p)] := by
  rw [callF_succ (f := ⟨1, 1, b_Cursor_peek⟩) rfl rfl]
  have h0 : ws.length ≤ sizeLine := le_size (by omega)
  have hc : (["Cursor"] : List Str).contains "Cursor" = true := by decide +kernel
  have h1 := v_words ws n p
  have h2 := v_place ws n p
  by_cases h : p < ws.length
  · have h3 : (p : Int) < ws.length := by omega
    have hat : atI (ws.map T.str) (p : Int) = some (.str (wordAt ws p)) := by
      unfold atI ixN wordAt
      rw [if_pos (by omega), if_pos (by rw [List.length_map]; exact h3), Option.bind_some, Int.toNat_natCast, List.getElem?_map, List.getD_eq_getElem?_getD, List.getElem?_eq_getElem h]
      rfl
    simp [b_Cursor_peek, curO, h1, h2, h0, h3, hat, -s_atI_1]
  · have h3 : ¬ (p : Int) < ws.length := by omega
    have hwd : wordAt ws p = "" := by
      unfold wordAt
      rw [List.getD_eq_getElem?_getD, List.getElem?_eq_none (by omega)]
      rfl
    simp [b_Cursor_peek, curO, h1, h2, h0, h3, hwd]
theorem take_spec (ws : List Str) (n : Int) (p : Nat) (hw : ws.length ≤ 1000) : callF Pr G0 D0 L (k + 2) 148 [.own (curO ws n p)] = .ok (.val (.str (wordAt ws p))) [.own (curO ws n (p + 1))] := by
  rw [callF_succ (f := ⟨1, 2, b_Cursor_take⟩) rfl rfl]
  have hp := peek_spec k L ws n p hw
  have h2 := v_place ws n p
  have h3 := p_place ws n p (p + 1)
  have h4 := v_no "peek" (by decide +kernel) ws n p
  simp [curO] at hp
  simp [b_Cursor_take, curO, hp, h2, h4, methOf, fsetR, h3]
theorem taken_spec (ws : List Str) (n : Int) (p : Nat) (hw : ws.length ≤ 1000) (x : Str) : callF Pr G0 D0 L (k + 2) 149 [.own (curO ws n p), .val (.str x)] = .ok (.val (.bl (decide (wordAt ws p = x)))) [.own (curO ws n (if wordAt ws p = x then p + 1 else p)), .val (.str x)] := by
  rw [callF_succ (f := ⟨2, 2, b_Cursor_taken⟩) rfl rfl]
  have hp := peek_spec k L ws n p hw
  have h2 := v_place ws n p
  have h3 := p_place ws n p (p + 1)
  have h4 := v_no "peek" (by decide +kernel) ws n p
  simp [curO] at hp
  by_cases hx : wordAt ws p = x
  · simp [b_Cursor_taken, curO, hp, h2, h4, methOf, fsetR, h3, eqR_strs, hx]
  · simp [b_Cursor_taken, curO, hp, h2, h4, methOf, fsetR, h3, eqR_strs, hx]
theorem need_spec (ws : List Str) (n : Int) (hn : 0 ≤ n ∧ n ≤ 1000) (p : Nat) (hw : ws.length ≤ 1000) (x f : Str) (hf : f.length ≤ 100) : callF Pr G0 D0 L (k + 3) 150 [.own (curO ws n p), .val (.str x), .val (.str f)] =
    if wordAt ws p = x then .ok (.val .non) [.own (curO ws n (p + 1)), .val (.str x), .val (.str f)] else .exc (bdX n f) [.own (curO ws n p), .val (.str x), .val (.str f)] := by
  rw [callF_succ (f := ⟨3, 3, b_Cursor_need⟩) rfl rfl]
  have ht := taken_spec k L ws n p hw x
  have h1 := v_line ws n p
  have h4 := v_no "taken" (by decide +kernel) ws n p
  have hr := raise_bd n hn f hf
  by_cases hx : wordAt ws p = x
  · rw [if_pos hx]
    simp [curO, hx] at ht
    simp [b_Cursor_need, curO, ht, h4, methOf]
  · rw [if_neg hx]
    simp [curO, hx] at ht
    simp [b_Cursor_need, curO, ht, h4, h1, methOf, valsR, hr]
theorem finish_spec (ws : List Str) (n : Int) (hn : 0 ≤ n ∧ n ≤ 1000) (p : Nat) (hw : ws.length ≤ 1000) (f : Str) (hf : f.length ≤ 100) : callF Pr G0 D0 L (k + 1) 151 [.own (curO ws n p), .val (.str f)] =
    if p < ws.length then .exc (bdX n f) [.own (curO ws n p), .val (.str f)] else .ok (.val .non) [.own (curO ws n p), .val (.str f)] := by
  rw [callF_succ (f := ⟨2, 2, b_Cursor_finish⟩) rfl rfl]
  have h0 : ws.length ≤ sizeLine := le_size (by omega)
  have h1 := v_line ws n p
  have h2 := v_place ws n p
  have h3 := v_words ws n p
  have hr := raise_bd n hn f hf
  by_cases h : p < ws.length
  · rw [if_pos h]
    have h5 : (p : Int) < ws.length := by omega
    simp [b_Cursor_finish, curO, h0, h1, h2, h3, h5, valsR, hr]
  · rw [if_neg h]
    have h5 : ¬ (p : Int) < ws.length := by omega
    simp [b_Cursor_finish, curO, h0, h1, h2, h3, h5]
/-! ## what a word is -/
def isNameW (w : Str) : Bool := match w.cps.toList.head? with | some c => isLet c | none => false
def isNumW (w : Str) : Bool := match w.cps.toList.head? with | some c => isDig c | none => false
theorem empty_iff (w : Str) : (w = "") = (w.cps.toList = []) := by
  apply propext
  constructor
  · rintro rfl; decide +kernel
  · intro h
    refine TL.ext_tl ?_
    show w.cps.toList = _
    rw [h]; decide +kernel
theorem is_name_spec (w : Str) (hw : w.length ≤ 100000) : callF Pr G0 D0 L (k + 1) 121 [.val (.str w)] = .ok (.val (.bl (isNameW w))) [.val (.str w)] := by
  rw [callF_succ (f := ⟨1, 1, b_is_name⟩) rfl rfl]
  cases hl : w.cps.toList with
  | nil =>
    have he : w = "" := by rw [empty_iff]; exact hl
    have h1 : isNameW w = false := by unfold isNameW; rw [hl]; rfl
    rw [h1]
    simp [b_is_name, eqR_strs, he]
  | cons c r =>
    have he : ¬ w = "" := by rw [empty_iff, hl]; simp
    have h1 : isNameW w = isLet c := by unfold isNameW; rw [hl]; rfl
    have hat : ixR (.str w) (.int 0) = some (.str ⟨#[c]⟩) := by simpa using at_str (z := w) (e := 0) (c := c) (by rw [hl]; rfl) hw
    have hin := in_sign c "abcdefghijklmnopqrstuvwxyz"
    rw [h1]
    have h2 : isLet c = decide (c ∈ ("abcdefghijklmnopqrstuvwxyz" : Str).cps.toList) := rfl
    simp [b_is_name, eqR_strs, he, hat, hin, h2, -s_ixR_4]
theorem is_number_spec (w : Str) (hw : w.length ≤ 100000) : callF Pr G0 D0 L (k + 1) 122 [.val (.str w)] = .ok (.val (.bl (isNumW w))) [.val (.str w)] := by
  rw [callF_succ (f := ⟨1, 1, b_is_number⟩) rfl rfl]
  cases hl : w.cps.toList with
  | nil =>
    have he : w = "" := by rw [empty_iff]; exact hl
    have h1 : isNumW w = false := by unfold isNumW; rw [hl]; rfl
    rw [h1]
    simp [b_is_number, eqR_strs, he]
  | cons c r =>
    have he : ¬ w = "" := by rw [empty_iff, hl]; simp
    have h1 : isNumW w = isDig c := by unfold isNumW; rw [hl]; rfl
    have hat : ixR (.str w) (.int 0) = some (.str ⟨#[c]⟩) := by simpa using at_str (z := w) (e := 0) (c := c) (by rw [hl]; rfl) hw
    have hin := in_sign c "0123456789"
    rw [h1]
    have h2 : isDig c = decide (c ∈ ("0123456789" : Str).cps.toList) := rfl
    simp [b_is_number, eqR_strs, he, hat, hin, h2, -s_ixR_4]
theorem take_name_spec (ws : List Str) (n : Int) (hn : 0 ≤ n ∧ n ≤ 1000) (p : Nat) (hw : ws.length ≤ 1000) (hl : (wordAt ws p).length ≤ 100000) (f : Str) (hf : f.length ≤ 100) : callF Pr G0 D0 L (k + 3) 152 [.own (curO ws n p), .val (.str f)] =
    if isNameW (wordAt ws p) = true then .ok (.val (.str (wordAt ws p))) [.own (curO ws n (p + 1)), .val (.str f)] else .exc (bdX n f) [.own (curO ws n p), .val (.str f)] := by
  rw [callF_succ (f := ⟨2, 2, b_Cursor_take_name⟩) rfl rfl]
  have hp := peek_spec (k + 1) L ws n p hw
  have ht := take_spec k L ws n p hw
  have hi := is_name_spec (k + 1) L (wordAt ws p) hl
  have h1 := v_line ws n p
  have h4 := v_no "peek" (by decide +kernel) ws n p
  have h5 := v_no "take" (by decide +kernel) ws n p
  have hr := raise_bd n hn f hf
  simp [curO] at hp ht
  cases hx : isNameW (wordAt ws p) with
  | true =>
    rw [hx] at hi
    simp [b_Cursor_take_name, curO, hp, ht, hi, h4, h5, methOf]
  | false =>
    rw [hx] at hi
    simp [b_Cursor_take_name, curO, hp, hi, h4, h1, methOf, valsR, hr]
def tmX (w : Str) (l : Int) : Xv := .usr "TooMany" [("limit", .int l), ("what", .str w)]
theorem take_whole_spec (ws : List Str) (n : Int) (hn : 0 ≤ n ∧ n ≤ 1000) (p : Nat) (hw : ws.length ≤ 1000) (hl : (wordAt ws p).length ≤ 640) (f : Str) (hf : f.length ≤ 100) {m : Int} (hm : isNumW (wordAt ws p) = true → (wordAt ws p).length ≤ 6 → intText? (wordAt ws p) = some m) : callF Pr G0 D0 L (k + 3) 153 [.own (curO ws n p), .val (.str f)] =
    if isNumW (wordAt ws p) = true then (if 6 < (wordAt ws p).length then .exc (tmX "figures" 6) [.own (curO ws n p), .val (.str f)] else .ok (.val (.int m)) [.own (curO ws n (p + 1)), .val (.str f)]) else .exc (bdX n f) [.own (curO ws n p), .val (.str f)] := by
  rw [callF_succ (f := ⟨2, 2, b_Cursor_take_whole⟩) rfl rfl]
  have hp := peek_spec (k + 1) L ws n p hw
  have ht := take_spec k L ws n p hw
  have hi := is_number_spec (k + 1) L (wordAt ws p) (by omega)
  have h1 := v_line ws n p
  have h4 := v_no "peek" (by decide +kernel) ws n p
  have h5 := v_no "take" (by decide +kernel) ws n p
  have hr := raise_bd n hn f hf
  have hz : (wordAt ws p).length ≤ sizeLine := le_size (by omega)
  simp [curO] at hp ht
  cases hx : isNumW (wordAt ws p) with
  | true =>
    rw [hx] at hi
    by_cases h6 : 6 < (wordAt ws p).length
    · have h6' : (6 : Int) < (wordAt ws p).length := by omega
      have hr2 : ∀ env : Env, raiseR "TooMany" ["what", "limit"] (IE.fstr (IEs.cons (IE.str "more than ") (IEs.cons (IE.var 2) (IEs.cons (IE.str " ") (IEs.cons (IE.var 1) IEs.nil))))) [T.str "figures", T.int 6] env = .exc (tmX "figures" 6) env := fun env => by
        have : msgOk (IE.fstr (IEs.cons (IE.str "more than ") (IEs.cons (IE.var 2) (IEs.cons (IE.str " ") (IEs.cons (IE.var 1) IEs.nil))))) [T.str "figures", T.int 6] = true := by decide +kernel
        simp [raiseR, this, lvs, lv, tmX]
      rw [if_pos rfl, if_pos h6]
      simp [b_Cursor_take_whole, curO, hp, hi, h4, hz, h6', methOf, valsR, hr2]
    · have h6' : ¬ (6 : Int) < (wordAt ws p).length := by omega
      have hv := hm hx (by omega)
      rw [if_pos rfl, if_neg h6]
      simp [b_Cursor_take_whole, curO, hp, ht, hi, h4, h5, hz, h6', methOf, hl, hv]
  | false =>
    rw [hx] at hi
    simp [b_Cursor_take_whole, curO, hp, hi, h4, h1, methOf, valsR, hr]
end G
namespace G
open PySem PySem.Spec PyProof.Rows L2

/-! # rows of words, with blanks between: what the lexer makes of them -/
theorem nmL_full : ∀ {r : List Nat} (s : List Nat), nmL r = r.length → nmL (r ++ s) = r.length + nmL s
  | [], s, _ => by simp
  | [c], s, h => by
    have hc : isAl c = true := by
      by_cases q : isAl c = true
      · exact q
      · simp [nmL, q] at h
    rw [List.singleton_append, nmL_al hc]
    rfl
  | c :: d :: r, s, h => by
    by_cases q : isAl c = true
    · have h1 : nmL (d :: r) = (d :: r).length := by
        rw [nmL_al q] at h
        simp only [List.length_cons] at h ⊢
        omega
      have ih := nmL_full s h1
      rw [List.cons_append, nmL_al q, ih]
      simp only [List.length_cons]
      omega
    · by_cases q2 : c = 46 ∧ isAl d = true
      · have h1 : nmL r = r.length := by
          simp only [nmL, if_neg q, if_pos q2, List.length_cons] at h
          omega
        have ih := nmL_full s h1
        show nmL (c :: d :: (r ++ s)) = _
        simp only [nmL, if_neg q, if_pos q2, ih, List.length_cons]
        omega
      · simp only [nmL, if_neg q, if_neg q2, List.length_cons] at h
        omega
theorem nmL_no {c : Nat} (h : isAl c = false) (h2 : c ≠ 46) (s : List Nat) : nmL (c :: s) = 0 := by
  cases s with
  | nil => simp [nmL, h]
  | cons d r => simp [nmL, h, h2]
theorem nmL_dot {s : List Nat} (h : ∀ d, s.head? = some d → isAl d = false) : nmL (46 :: s) = 0 := by
  have h46 : isAl 46 = false := by decide +kernel
  cases s with
  | nil => simp [nmL, h46]
  | cons d r => simp [nmL, h46, h d rfl]
theorem nmL_zero {c : Nat} {s : List Nat} (h : nmL (c :: s) = 0) : isAl c = false := by
  by_cases q : isAl c = true
  · rw [nmL_al q] at h; omega
  · simpa using q
theorem tw_all {w s : List Nat} (h : ∀ c ∈ w, isDig c = true) (hs : nmL s = 0) : (w ++ s).takeWhile isDig = w := by
  rw [List.takeWhile_append_of_pos h]
  cases s with
  | nil => simp
  | cons c r =>
    have h1 := nmL_zero hs
    have h2 : isDig c = false := by
      cases hd : isDig c with
      | false => rfl
      | true => simp [isAl, hd] at h1
    rw [List.takeWhile_cons_of_neg (by simp [h2])]
    simp
def signsL : List (List Nat) := [[58, 61], [60, 61], [62, 61], [61, 61], [60], [62], [43], [45], [47], [40], [41], [44], [124], [58]]
theorem signs_L : signs = signsL.map fun l => (⟨l.toArray⟩ : Str) := by decide +kernel
def sgL (u : List Nat) : Option (List Nat) := signsL.find? fun l => decide (u.take l.length = l)
theorem str_iff (l : List Nat) (s : Str) : ((⟨l.toArray⟩ : Str) = s) ↔ l = s.cps.toList := by
  constructor
  · intro h
    have := congrArg (fun z : Str => z.cps.toList) h
    simpa using this
  · intro h
    subst h
    rfl
theorem sgAt_L (xs : List Nat) (e : Nat) : sgAt xs e = ((sgL (xs.drop e)).map fun l => (⟨l.toArray⟩ : Str)).getD "" := by
  unfold sgAt sgL
  rw [signs_L, List.find?_map]
  congr 3
  funext l
  show decide (piece xs e (e + l.toArray.size) = (⟨l.toArray⟩ : Str)) = decide ((xs.drop e).take l.length = l)
  have h1 : e + l.toArray.size - e = l.length := by
    rw [List.size_toArray]; omega
  unfold piece
  rw [h1]
  apply decide_eq_decide.mpr
  exact str_iff _ _
theorem sgL_word {l : List Nat} (hl : l ∈ signsL) (s : List Nat) (h : l = [58] ∨ l = [60] ∨ l = [62] → s.head? ≠ some 61) : sgL (l ++ s) = some l := by
  simp only [signsL, List.mem_cons, List.not_mem_nil, or_false] at hl
  rcases hl with rfl | rfl | rfl | rfl | rfl | rfl | rfl | rfl | rfl | rfl | rfl | rfl | rfl | rfl <;>
  (cases s with
   | nil => rfl
   | cons b r => simp at h; simp [sgL, signsL, List.find?, h])
def heads : List Nat := [58, 60, 62, 61, 43, 45, 47, 40, 41, 44, 124]
theorem sgL_none {c : Nat} (hc : c ∉ heads) (s : List Nat) : sgL (c :: s) = none := by
  simp only [heads, List.mem_cons, List.not_mem_nil, or_false, not_or] at hc
  obtain ⟨h1, h2, h3, h4, h5, h6, h7, h8, h9, h10, h11⟩ := hc
  simp [sgL, signsL, List.find?, h1, h2, h3, h4, h5, h6, h7, h8, h9, h10, h11]
theorem sgL_eq {s : List Nat} (h : s.head? ≠ some 61) : sgL (61 :: s) = none := by
  cases s with
  | nil => rfl
  | cons b r => simp at h; simp [sgL, signsL, List.find?, h]
def apartB (a b : Str) : Bool := (decide (a ∉ signs) && decide (b ∉ signs)) || (decide (b = "==") && decide (a ∈ ([":", "<", ">"] : List Str)))
/-- what may stand behind a word at once -/
def After (w : Str) (s : List Nat) : Prop := (w ∉ signs → nmL s = 0) ∧ (w ∈ ([":", "<", ">"] : List Str) → s.head? ≠ some 61)
def Wd (w : Str) : Prop := w.length ≤ 100 ∧ ((∃ c r, w.cps.toList = c :: r ∧ isLet c = true ∧ nmL r = r.length) ∨ (w.cps.toList ≠ [] ∧ ∀ c ∈ w.cps.toList, isDig c = true) ∨ w ∈ signs)
theorem sign_head {w : Str} (h : w ∈ signs) : ∃ c r, w.cps.toList = c :: r ∧ c ∈ heads := by
  have h1 : (signs.all fun s => match s.cps.toList with | [] => false | c :: _ => decide (c ∈ heads)) = true := by decide +kernel
  rw [List.all_eq_true] at h1
  have h2 := h1 w h
  cases hl : w.cps.toList with
  | nil => rw [hl] at h2; simp at h2
  | cons c r => rw [hl] at h2; exact ⟨c, r, rfl, by simpa using h2⟩
theorem heads_no {c : Nat} (h : c ∈ heads) : isLet c = false ∧ isDig c = false ∧ isAl c = false ∧ c ≠ 32 ∧ c ≠ 46 := by
  have h1 : (heads.all fun c => !isLet c && !isDig c && !isAl c && decide (c ≠ 32) && decide (c ≠ 46)) = true := by decide +kernel
  rw [List.all_eq_true] at h1
  have h2 := h1 c h
  simp only [Bool.and_eq_true, Bool.not_eq_true', decide_eq_true_eq] at h2
  exact ⟨h2.1.1.1.1, h2.1.1.1.2, h2.1.1.2, h2.1.2, h2.2⟩
theorem let_no {c : Nat} (h : isLet c = true) : c ≠ 32 ∧ c ≠ 61 ∧ isDig c = false ∧ isAl c = true ∧ c < 128 ∧ c ≠ 10 := by
  have h1 : (lets.all fun c => decide (c ≠ 32) && decide (c ≠ 61) && !isDig c && decide (c < 128) && decide (c ≠ 10)) = true := by decide +kernel
  rw [List.all_eq_true] at h1
  have h2 := h1 c (by simpa [isLet] using h)
  simp only [Bool.and_eq_true, Bool.not_eq_true', decide_eq_true_eq] at h2
  exact ⟨h2.1.1.1.1, h2.1.1.1.2, h2.1.1.2, by simp [isAl, h], h2.1.2, h2.2⟩
theorem dig_no {c : Nat} (h : isDig c = true) : c ≠ 32 ∧ c ≠ 61 ∧ isLet c = false ∧ isAl c = true ∧ c < 128 ∧ c ≠ 10 := by
  have h1 : (digs.all fun c => decide (c ≠ 32) && decide (c ≠ 61) && !isLet c && decide (c < 128) && decide (c ≠ 10)) = true := by decide +kernel
  rw [List.all_eq_true] at h1
  have h2 := h1 c (by simpa [isDig] using h)
  simp only [Bool.and_eq_true, Bool.not_eq_true', decide_eq_true_eq] at h2
  exact ⟨h2.1.1.1.1, h2.1.1.1.2, h2.1.1.2, by simp [isAl, h], h2.1.2, h2.2⟩
theorem not_sign {w : Str} {c : Nat} {r : List Nat} (h : w.cps.toList = c :: r) (hc : isAl c = true) : w ∉ signs := fun hs => by
  obtain ⟨c', r', h1, h2⟩ := sign_head hs
  rw [h] at h1
  cases h1
  rw [(heads_no h2).2.2.1] at hc
  cases hc
theorem drop_at {xs : List Nat} {e c : Nat} {r : List Nat} (h : xs.drop e = c :: r) : xs[e]? = some c ∧ xs.drop (e + 1) = r := by
  constructor
  · have : (xs.drop e)[0]? = xs[e + 0]? := List.getElem?_drop
    rw [h] at this
    simpa using this.symm
  · rw [← List.drop_drop, h]; rfl
theorem lex_sp {xs : List Nat} {e f : Nat} {acc : List Str} {r : List Nat} (h : xs.drop e = 32 :: r) : lexW xs (f + 1) e acc = lexW xs f (e + 1) acc := by
  simp only [lexW, (drop_at h).1, if_true]
theorem lex_word {w : Str} {s xs : List Nat} {e f : Nat} {acc : List Str} (hw : Wd w) (hd : xs.drop e = w.cps.toList ++ s) (ha : After w s) : lexW xs (f + 1) e acc = lexW xs f (e + w.length) (acc ++ [w]) := by
  have hlen : w.length = w.cps.toList.length := TL.len_tl w
  have hpc : piece xs e (e + w.length) = w := by
    unfold piece
    rw [show e + w.length - e = w.length by omega, hd, hlen, List.take_left]
  rcases hw.2 with ⟨c, r, h1, h2, h3⟩ | ⟨h1, h2⟩ | hs
  · rw [h1] at hd
    obtain ⟨d1, d2⟩ := drop_at hd
    have hn := nmL_full s h3
    rw [ha.1 (not_sign h1 (let_no h2).2.2.2.1)] at hn
    have he : nmE xs (e + 1) = e + w.length := by
      unfold nmE
      rw [d2, List.append_eq, hn, hlen, h1, List.length_cons]
      omega
    simp only [lexW, d1, if_neg (let_no h2).1, if_pos h2, he, hpc]
  · cases hl : w.cps.toList with
    | nil => exact absurd hl h1
    | cons c r =>
      have hc : isDig c = true := h2 c (by rw [hl]; simp)
      have hns := not_sign hl (dig_no hc).2.2.2.1
      have he : numE xs e = e + w.length := by
        unfold numE
        rw [hd, tw_all h2 (ha.1 hns), hlen]
      rw [hl] at hd
      obtain ⟨d1, d2⟩ := drop_at hd
      simp only [lexW, d1, if_neg (dig_no hc).1, (dig_no hc).2.2.1, if_pos hc, he, hpc]
      rfl
  · obtain ⟨c, r, h1, h2⟩ := sign_head hs
    have hn := heads_no h2
    have hsg : sgAt xs e = w := by
      rw [sgAt_L, hd]
      have hs' := hs
      rw [signs_L] at hs'
      obtain ⟨l, hl, rfl⟩ := List.mem_map.mp hs'
      rw [show (⟨l.toArray⟩ : Str).cps.toList = l from rfl, sgL_word hl s]
      · rfl
      · intro q
        apply ha.2
        rcases q with rfl | rfl | rfl <;> decide +kernel
    have hne : w ≠ "" := fun e0 => by
      rw [empty_iff] at e0
      rw [h1] at e0
      cases e0
    have hd' := hd
    rw [h1] at hd'
    obtain ⟨d1, d2⟩ := drop_at hd'
    simp only [lexW, d1, if_neg hn.2.2.2.1, hn.1, hn.2.1, hsg, if_neg hne]
    rfl
def Lx (t : List Nat) (ws : List Str) (l : Option Str) : Prop := ∀ (xs : List Nat) (e f : Nat) (acc : List Str) (s : List Nat), xs.drop e = t ++ s → (∀ w, l = some w → After w s) → t.length ≤ f → ∃ f', f - t.length ≤ f' ∧ lexW xs f e acc = lexW xs f' (e + t.length) (acc ++ ws)
theorem lx_nil : Lx [] [] none := fun xs e f acc s _ _ _ => ⟨f, by simp, by simp⟩
theorem lx_app {t1 t2 : List Nat} {ws1 ws2 : List Str} {l1 l2 : Option Str} (h1 : Lx t1 ws1 l1) (h2 : Lx t2 ws2 l2) (h : ∀ w s, l1 = some w → After w (t2 ++ s)) : Lx (t1 ++ t2) (ws1 ++ ws2) l2 := by
  intro xs e f acc s hd ha hf
  rw [List.append_assoc] at hd
  rw [List.length_append] at hf
  obtain ⟨f1, q1, q2⟩ := h1 xs e f acc (t2 ++ s) hd (fun w hw => h w s hw) (by omega)
  obtain ⟨f2, q3, q4⟩ := h2 xs (e + t1.length) f1 (acc ++ ws1) s (by rw [← List.drop_drop, hd, List.drop_left]) ha (by omega)
  refine ⟨f2, by rw [List.length_append]; omega, ?_⟩
  rw [q2, q4, List.length_append, List.append_assoc, Nat.add_assoc]
theorem lx_sp : Lx [32] [] none := by
  intro xs e f acc s hd _ hf
  obtain ⟨f, rfl⟩ : ∃ g, f = g + 1 := ⟨f - 1, by simp at hf; omega⟩
  exact ⟨f, by simp, by rw [lex_sp hd, List.append_nil]; rfl⟩
theorem lx_blanks : ∀ b : Nat, Lx (List.replicate b 32) [] none
  | 0 => lx_nil
  | b + 1 => by
    have := lx_app lx_sp (lx_blanks b) (fun w s h => by cases h)
    simpa [List.replicate_succ] using this
theorem lx_word {w : Str} (hw : Wd w) : Lx w.cps.toList [w] (some w) := by
  intro xs e f acc s hd ha hf
  have hlen : w.length = w.cps.toList.length := TL.len_tl w
  have hpos : 0 < w.cps.toList.length := by
    rcases hw.2 with ⟨c, r, h1, h2, h3⟩ | ⟨h1, h2⟩ | hs
    · rw [h1]; simp
    · exact List.length_pos_iff.mpr h1
    · obtain ⟨c, r, h1, _⟩ := sign_head hs
      rw [h1]; simp
  obtain ⟨f, rfl⟩ : ∃ g, f = g + 1 := ⟨f - 1, by omega⟩
  exact ⟨f, by omega, by rw [lex_word hw hd (ha w rfl), hlen]⟩
theorem al32 : isAl 32 = false := by decide +kernel
theorem after_sp (w : Str) (s : List Nat) : After w (32 :: s) := ⟨fun _ => nmL_no al32 (by decide) s, fun _ => by simp⟩
theorem after_nil (w : Str) : After w [] := ⟨fun _ => rfl, fun _ => by simp⟩
theorem after_wd {w v : Str} (hv : Wd v) (h : apartB w v = false) (s : List Nat) : After w (v.cps.toList ++ s) := by
  unfold apartB at h
  simp only [Bool.or_eq_false_iff, Bool.and_eq_false_iff, decide_eq_false_iff_not, Classical.not_not] at h
  refine ⟨fun hw => ?_, fun hw => ?_⟩
  · have hv2 : v ∈ signs := h.1.resolve_left hw
    obtain ⟨c, r, h1, h2⟩ := sign_head hv2
    have hn := heads_no h2
    rw [h1]
    exact nmL_no hn.2.2.1 hn.2.2.2.2 _
  · have hne : ¬ v = "==" := by
      rcases h.2 with q | q
      · exact q
      · exact absurd hw q
    rcases hv.2 with ⟨c, r, h1, h2, h3⟩ | ⟨h1, h2⟩ | hs
    · rw [h1]
      simpa using (let_no h2).2.1
    · cases hl : v.cps.toList with
      | nil => exact absurd hl h1
      | cons c r =>
        have hc : isDig c = true := h2 c (by rw [hl]; simp)
        simpa using (dig_no hc).2.1
    · have h1 : (signs.all fun s => decide (s = "==") || (match s.cps.toList with | [] => false | c :: _ => decide (c ≠ 61))) = true := by decide +kernel
      rw [List.all_eq_true] at h1
      have h2 := h1 v hs
      cases hl : v.cps.toList with
      | nil => rw [hl] at h2; simp [hne] at h2
      | cons c r =>
        rw [hl] at h2
        simp only [hne, decide_false, Bool.false_or, decide_eq_true_eq] at h2
        simpa using h2
theorem lex_ok {t : List Nat} {ws : List Str} {l : Option Str} (h : Lx t ws l) {f : Nat} (hf : t.length < f) : lexW t f 0 [] = .ok ws := by
  obtain ⟨f', q1, q2⟩ := h t 0 f [] [] (by simp) (fun w _ => after_nil w) (by omega)
  obtain ⟨g, rfl⟩ : ∃ g, f' = g + 1 := ⟨f' - 1, by omega⟩
  rw [q2, Nat.zero_add]
  simp only [lexW, List.getElem?_eq_none (Nat.le_refl t.length), List.nil_append]
/-- what begins no word -/
def Bd (s : List Nat) : Prop := (∀ w, After w s) ∧ ∀ (xs : List Nat) (e f : Nat) (acc : List Str), xs.drop e = s → 2 ≤ f → lexW xs f e acc = .bad
theorem lex_bad {t : List Nat} {ws : List Str} {l : Option Str} (h : Lx t ws l) {s : List Nat} (hs : Bd s) {f : Nat} (hf : t.length + 2 ≤ f) : lexW (t ++ s) f 0 [] = .bad := by
  obtain ⟨f', q1, q2⟩ := h (t ++ s) 0 f [] s (by simp) (fun w _ => hs.1 w) (by omega)
  rw [q2, Nat.zero_add]
  exact hs.2 _ _ _ _ (by rw [List.drop_left]) (by omega)
theorem bad_sign {xs : List Nat} {e f c : Nat} {acc : List Str} {s : List Nat} (h : xs.drop e = c :: s) (h32 : c ≠ 32) (ha : isAl c = false) (hs : sgL (c :: s) = none) : lexW xs (f + 1) e acc = .bad := by
  obtain ⟨d1, d2⟩ := drop_at h
  have h1 : isLet c = false ∧ isDig c = false := by simpa [isAl] using ha
  have h2 : sgAt xs e = "" := by rw [sgAt_L, h, hs]; rfl
  simp only [lexW, d1, if_neg h32, h1.1, h1.2, h2, if_true]
  rfl
theorem bd_sign {c : Nat} (h32 : c ≠ 32) (ha : isAl c = false) (h46 : c ≠ 46) (hh : c ∉ heads) (s : List Nat) : Bd (c :: s) := by
  refine ⟨fun w => ⟨fun _ => nmL_no ha h46 s, fun _ q => hh ?_⟩, fun xs e f acc h hf => ?_⟩
  · have : c = 61 := by simpa using q
    rw [this]; decide
  · obtain ⟨f, rfl⟩ : ∃ g, f = g + 1 := ⟨f - 1, by omega⟩
    exact bad_sign h h32 ha (sgL_none hh s)
theorem bd_dot {s : List Nat} (h : ∀ d, s.head? = some d → isAl d = false) : Bd (46 :: s) := by
  refine ⟨fun w => ⟨fun _ => nmL_dot h, fun _ => by simp⟩, fun xs e f acc h hf => ?_⟩
  obtain ⟨f, rfl⟩ : ∃ g, f = g + 1 := ⟨f - 1, by omega⟩
  exact bad_sign h (by decide) (by decide +kernel) (sgL_none (by decide) s)
theorem bd_sp {s : List Nat} {c : Nat} (h32 : c ≠ 32) (ha : isAl c = false) (hs : sgL (c :: s) = none) : Bd (32 :: c :: s) := by
  refine ⟨fun w => after_sp w _, fun xs e f acc h hf => ?_⟩
  obtain ⟨f, rfl⟩ : ∃ g, f = g + 2 := ⟨f - 2, by omega⟩
  rw [lex_sp h]
  exact bad_sign (drop_at h).2 h32 ha hs
end G
namespace G
open PySem PySem.Spec PyProof.Rows L2

/-! # loops over places -/
theorem forL_ix' {fx : Nat → Bool} {tg : Tgt} {body : Env → Out Sg} {N : Nat} (I : Nat → Env → Prop) (step : ∀ i e, i < N → I i e → ∃ e1 e2, bindT fx tg (.int (i : Int)) e = some e1 ∧ body e1 = .ok .nxt e2 ∧ I (i + 1) e2) : ∀ (n i : Nat) (e : Env), i + n = N → I i e →
    ∃ e', forL fx tg body ((List.range' i n).map fun k : Nat => T.int (0 + (k : Int))) e = .ok .nxt e' ∧ I N e'
  | 0, i, e, h, he => ⟨e, rfl, by rw [← h]; exact he⟩
  | n + 1, i, e, h, he => by
    obtain ⟨e1, e2, h1, h2, h3⟩ := step i e (by omega) he
    obtain ⟨e3, h4, h5⟩ := forL_ix' I step n (i + 1) e2 (by omega) h3
    refine ⟨e3, ?_, h5⟩
    rw [List.range'_succ]
    simp only [List.map_cons, forL, Int.zero_add, h1, h2, s_bind_ok]
    simpa only [Int.zero_add] using h4
theorem forL_ix {fx : Nat → Bool} {tg : Tgt} {body : Env → Out Sg} {N : Nat} {e : Env} (I : Nat → Env → Prop) (h0 : I 0 e) (step : ∀ i e, i < N → I i e → ∃ e1 e2, bindT fx tg (.int (i : Int)) e = some e1 ∧ body e1 = .ok .nxt e2 ∧ I (i + 1) e2) :
    ∃ e', forL fx tg body (rngT 0 N) e = .ok .nxt e' ∧ I N e' := by
  rw [rngT_map, List.range_eq_range']
  exact forL_ix' I step N 0 e (by omega) h0
theorem tlapp (a b : Str) : (a ++ b).cps.toList = a.cps.toList ++ b.cps.toList := TL.tl_append a b
theorem lenapp (a b : Str) : (a ++ b).length = a.length + b.length := by
  rw [TL.len_tl, TL.len_tl a, TL.len_tl b, TL.tl_append, List.length_append]
theorem strOk_ch {s : Str} (h : ∀ c ∈ s.cps.toList, c < 128 ∧ c ≠ 10) : PyData.strOk s = true := by
  unfold PyData.strOk
  rw [← Array.all_toList, List.all_eq_true]
  intro c hc
  have := h c hc
  simp; omega
/-- a number drawn -/
theorem drawn (k L : Nat) (j : Jar) (m : Int) (h : 0 < m ∧ m ≤ 2 ^ 100) : ∃ (d : Nat) (j' : Jar), (d : Int) < m ∧ callF Pr G0 D0 L (k + 2) 15 [.own (jarO j), .val (.int m)] = .ok (.val (.int (d : Int))) [.own (jarO j'), .val (.int m)] := by
  have d1 := drawV_nonneg j (m := m) h.1
  have d2 := drawV_lt j (m := m) h.1
  have hd := draw_n k L j m h
  obtain ⟨d, hd2⟩ := Int.eq_ofNat_of_zero_le d1
  rw [hd2] at hd d2
  exact ⟨d, _, d2, hd⟩
theorem atI_str {ws : List Str} {i : Nat} {w : Str} (h : ws[i]? = some w) : atI (ws.map T.str) (i : Int) = some (.str w) := by
  have hlt := (List.getElem?_eq_some_iff.mp h).1
  unfold atI ixN
  rw [if_pos (by omega), if_pos (by rw [List.length_map]; omega), Option.bind_some, Int.toNat_natCast, List.getElem?_map, h]
  rfl
theorem rep_blank {n : Nat} (h : n ≤ 3) : (repS (" " : Str) (n : Int)).cps.toList = List.replicate n 32 := by
  have : n = 0 ∨ n = 1 ∨ n = 2 ∨ n = 3 := by omega
  rcases this with rfl | rfl | rfl | rfl <;> decide +kernel
theorem rep_len {n : Nat} (h : n ≤ 3) : (repS (" " : Str) (n : Int)).length = n := by
  rw [TL.len_tl]
  show (repS (" " : Str) (n : Int)).cps.toList.length = n
  rw [rep_blank h, List.length_replicate]
/-! # words -/
theorem nmL_chars : ∀ {r : List Nat}, nmL r = r.length → ∀ c ∈ r, isAl c = true ∨ c = 46
  | [], _, _, h => by cases h
  | [c], h, d, hd => by
    have e : d = c := by simpa using hd
    subst e
    by_cases q : isAl d = true
    · exact .inl q
    · simp [nmL, q] at h
  | c :: d :: r, h, x, hx => by
    by_cases q : isAl c = true
    · have h1 : nmL (d :: r) = (d :: r).length := by
        rw [nmL_al q] at h
        simp only [List.length_cons] at h ⊢
        omega
      rcases List.mem_cons.mp hx with e | hx
      · subst e; exact .inl q
      · exact nmL_chars h1 x hx
    · by_cases q2 : c = 46 ∧ isAl d = true
      · have h1 : nmL r = r.length := by
          simp only [nmL, if_neg q, if_pos q2, List.length_cons] at h
          omega
        rcases List.mem_cons.mp hx with e | hx
        · subst e; exact .inr q2.1
        · rcases List.mem_cons.mp hx with e | hx
          · subst e; exact .inl q2.2
          · exact nmL_chars h1 x hx
      · simp only [nmL, if_neg q, if_neg q2, List.length_cons] at h
        omega
theorem al_ch {c : Nat} (h : isAl c = true) : c < 128 ∧ c ≠ 10 := by
  rcases (by simpa [isAl] using h : isLet c = true ∨ isDig c = true) with h | h
  · exact ⟨(let_no h).2.2.2.2.1, (let_no h).2.2.2.2.2⟩
  · exact ⟨(dig_no h).2.2.2.2.1, (dig_no h).2.2.2.2.2⟩
theorem wd_ch {w : Str} (h : Wd w) : ∀ c ∈ w.cps.toList, c < 128 ∧ c ≠ 10 := by
  intro c hc
  rcases h.2 with ⟨d, r, h1, h2, h3⟩ | ⟨h1, h2⟩ | hs
  · rw [h1] at hc
    rcases List.mem_cons.mp hc with e | hc
    · subst e; exact al_ch (let_no h2).2.2.2.1
    · rcases nmL_chars h3 c hc with q | q
      · exact al_ch q
      · omega
  · exact al_ch (dig_no (h2 c hc)).2.2.2.1
  · have h1 : (signs.all fun s => s.cps.toList.all fun c => decide (c < 128) && decide (c ≠ 10)) = true := by decide +kernel
    rw [List.all_eq_true] at h1
    have h2 := h1 w hs
    rw [List.all_eq_true] at h2
    simpa using h2 c hc
theorem wd_ok {w : Str} (h : Wd w) : PyData.strOk w = true := strOk_ch (wd_ch h)
theorem lx_step {t : List Nat} {ws : List Str} {l : Option Str} {w : Str} {b : Nat} (h : Lx t ws l) (hw : Wd w) (hb : ∀ u, l = some u → apartB u w = true → 1 ≤ b) : Lx (t ++ List.replicate b 32 ++ w.cps.toList) (ws ++ [w]) (some w) := by
  cases b with
  | zero =>
    rw [List.replicate_zero, List.append_nil]
    refine lx_app h (lx_word hw) fun u s hu => after_wd hw ?_ s
    cases ha : apartB u w with
    | false => rfl
    | true => exact absurd (hb u hu ha) (by omega)
  | succ b =>
    have h1 := lx_app h (lx_blanks (b + 1)) fun u s _ => by
      rw [List.replicate_succ]; exact after_sp u _
    have h2 := lx_app h1 (lx_word hw) fun u s hu => by cases hu
    rwa [List.append_nil] at h2
theorem lx_end {t : List Nat} {ws : List Str} {l : Option Str} (b : Nat) (h : Lx t ws l) : ∃ l', Lx (t ++ List.replicate b 32) ws l' := by
  cases b with
  | zero => exact ⟨l, by simpa using h⟩
  | succ b =>
    have h1 := lx_app h (lx_blanks (b + 1)) fun u s _ => by
      rw [List.replicate_succ]; exact after_sp u _
    rw [List.append_nil] at h1
    exact ⟨none, h1⟩
theorem lx_join {t1 t2 : List Nat} {ws1 ws2 : List Str} {l1 l2 : Option Str} (h1 : Lx t1 ws1 l1) (h2 : Lx t2 ws2 l2) : Lx (t1 ++ 32 :: t2) (ws1 ++ ws2) l2 := by
  have a := lx_app lx_sp h2 fun u s hu => by cases hu
  exact lx_app h1 a fun u s _ => after_sp u _
/-- a text of such words, with blanks -/
structure Sp (t : Str) (ws : List Str) : Prop where
  lx : ∃ l, Lx t.cps.toList ws l
  ch : ∀ c ∈ t.cps.toList, c < 128 ∧ c ≠ 10
  len : t.length ≤ 103 * ws.length + 6
end G
namespace G
open PySem PySem.Spec PyProof.Rows L2

variable (k L : Nat)
def bdF (n : Int) (f : Str) : List (Str × T) := [("fault", .str f), ("line", .int n)]
theorem f_fault (n : Int) (f : Str) : valT (kvT [(("fault" : Str), T.str f), (("line" : Str), T.int n)]) (.inr "fault") = some (.str f) := by simp [valT, kvT]
theorem f_line (n : Int) (f : Str) : valT (kvT [(("fault" : Str), T.str f), (("line" : Str), T.int n)]) (.inr "line") = some (.int n) := by
  have h1 : ¬ ((Sum.inr ("fault" : Str) : Key) = Sum.inr ("line" : Str)) := by decide +kernel
  simp [valT, kvT, h1]
theorem ew_bad (a : Addr) (n : Int) (f : Str) : callF Pr G0 D0 L (k + 1) 349 [.val (encE a "BadText" (bdF n f))] = .ok (.val (.tup [.str "BadText", .int n, .str f])) [] := by
  rw [callE_succ (f := ⟨1, 1, b_error_words_349⟩) rfl rfl]
  have n1 : ((["BadText"] : List Str).any fun y => decide (y = ("BadText" : Str))) = true := by decide +kernel
  have h1 := f_fault n f
  have h2 := f_line n f
  simp [encE, bdF, errR, setG, n1, h1, h2, -List.any_cons]
theorem told_eq (n : Int) (f : Str) (hf : PyData.strOk f = true) : eqR (.tup [.str "BadText", .int n, .str f]) (.tup [.str "BadText", .int n, .str f]) = some true := by
  have h1 : PyData.strOk ("BadText" : Str) = true := by decide +kernel
  unfold eqR
  simp [flatT, fitT, hf, h1, eqT, eqTs]
theorem rf_bad (a : Addr) (n : Int) (f : Str) (hf : PyData.strOk f = true) : callF Pr G0 D0 L (k + 2) 350 [.val (encE a "BadText" (bdF n f))] = .ok (.val (.tup [.str "refused", .str "BadText", .int n, .str f])) [] := by
  rw [callE_succ (f := ⟨1, 2, b_law_refusal_350⟩) rfl rfl]
  have n1 : ((["BadText"] : List Str).any fun y => decide (y = ("BadText" : Str))) = true := by decide +kernel
  have n2 : ((["BadText", "BadProgram", "BadShape", "TooMany", "BadPaper", "BadQuestion", "BadData"] : List Str).any fun y => decide (y = ("BadText" : Str))) = true := by decide +kernel
  have n3 : ((["BadProgram", "BadShape", "BadPaper", "BadQuestion", "BadData"] : List Str).any fun y => decide (y = ("BadText" : Str))) = false := by decide +kernel
  have n4 : ((["TooMany"] : List Str).any fun y => decide (y = ("BadText" : Str))) = false := by decide +kernel
  have h1 := f_fault n f
  have h2 := f_line n f
  have he := ew_bad k L a n f
  have ht := told_eq n f hf
  simp only [encE, bdF] at he
  simp [encE, bdF, errR, setG, n1, n2, n3, n4, h1, h2, he, ht, -List.any_cons]
theorem line_bad {z f : Str} {n : Int} (hf : PyData.strOk f = true) (h : callF Pr G0 D0 L (k + 2) 140 [.val (.str z), .val (.int n)] = .exc (bdX n f) [.val (.str z), .val (.int n)]) : callF Pr G0 D0 L (k + 3) 142 [.val (.str z), .val (.int n)] = .ok (.val (.tup [.str "refused", .str "BadText", .int n, .str f])) [.val (.str z), .val (.int n)] := by
  rw [callF_succ (f := ⟨2, 3, b_law_line_says_142⟩) rfl rfl]
  have hs : suiteR (callF Pr G0 D0 L (k + 2)) G0 D0 (fxOf [.val (.str z), .val (.int n)]) "BadText" [("fault", .str f), ("line", .int n)] (SUs.cons (SU.ret (IE.ecall 350 (IE.var 2))) SUs.nil) (some 2) [some (.val (.str z)), some (.val (.int n)), none] = .ok (.ret (.val (.tup [.str "refused", .str "BadText", .int n, .str f]))) [some (.val (.str z)), some (.val (.int n)), none] := by
    refine suiteR_ok fun a => ?_
    have hr := rf_bad k L a n f hf
    simp only [encE, bdF] at hr
    simp [encE, setG, hr]
  simp [b_law_line_says_142, h, bdX, hs]
theorem line_ok {z : Str} {n : Int} {ws : List Str} (h : callF Pr G0 D0 L (k + 2) 140 [.val (.str z), .val (.int n)] = .ok (.val (.tup (ws.map T.str))) [.val (.str z), .val (.int n)]) : callF Pr G0 D0 L (k + 3) 142 [.val (.str z), .val (.int n)] = .ok (.val (.tup [.str "words", .tup (ws.map T.str)])) [.val (.str z), .val (.int n)] := by
  rw [callF_succ (f := ⟨2, 3, b_law_line_says_142⟩) rfl rfl]
  simp [b_law_line_says_142, h]
end G
namespace G
open PySem PySem.Spec PyProof.Rows L2

variable (k L : Nat)
def tmF (w : Str) (l : Int) : List (Str × T) := [("limit", .int l), ("what", .str w)]
theorem f_limit (w : Str) (l : Int) : valT (kvT [(("limit" : Str), T.int l), (("what" : Str), T.str w)]) (.inr "limit") = some (.int l) := by simp [valT, kvT]
theorem f_what (w : Str) (l : Int) : valT (kvT [(("limit" : Str), T.int l), (("what" : Str), T.str w)]) (.inr "what") = some (.str w) := by
  have h1 : ¬ ((Sum.inr ("limit" : Str) : Key) = Sum.inr ("what" : Str)) := by decide +kernel
  simp [valT, kvT, h1]
theorem ew_many (a : Addr) (w : Str) (l : Int) : callF Pr G0 D0 L (k + 1) 349 [.val (encE a "TooMany" (tmF w l))] = .ok (.val (.tup [.str "TooMany", .str w, .int l])) [] := by
  rw [callE_succ (f := ⟨1, 1, b_error_words_349⟩) rfl rfl]
  have n1 : ((["BadText"] : List Str).any fun y => decide (y = ("TooMany" : Str))) = false := by decide +kernel
  have n2 : ((["BadProgram"] : List Str).any fun y => decide (y = ("TooMany" : Str))) = false := by decide +kernel
  have n3 : ((["BadShape"] : List Str).any fun y => decide (y = ("TooMany" : Str))) = false := by decide +kernel
  have n4 : ((["TooMany"] : List Str).any fun y => decide (y = ("TooMany" : Str))) = true := by decide +kernel
  have h1 := f_limit w l
  have h2 := f_what w l
  simp [encE, tmF, errR, setG, n1, n2, n3, n4, h1, h2, -List.any_cons]
theorem rf_many (a : Addr) : callF Pr G0 D0 L (k + 2) 350 [.val (encE a "TooMany" (tmF "figures" 6))] = .ok (.val (.tup [.str "refused", .str "TooMany", .str "figures", .int 6])) [] := by
  rw [callE_succ (f := ⟨1, 2, b_law_refusal_350⟩) rfl rfl]
  have n1 : ((["BadText"] : List Str).any fun y => decide (y = ("TooMany" : Str))) = false := by decide +kernel
  have n2 : ((["BadText", "BadProgram", "BadShape", "TooMany", "BadPaper", "BadQuestion", "BadData"] : List Str).any fun y => decide (y = ("TooMany" : Str))) = true := by decide +kernel
  have n3 : ((["BadProgram", "BadShape", "BadPaper", "BadQuestion", "BadData"] : List Str).any fun y => decide (y = ("TooMany" : Str))) = false := by decide +kernel
  have n4 : ((["TooMany"] : List Str).any fun y => decide (y = ("TooMany" : Str))) = true := by decide +kernel
  have h1 := f_limit "figures" 6
  have h2 := f_what "figures" 6
  have he := ew_many k L a "figures" 6
  have ht : eqR (.tup [.str "TooMany", .str "figures", .int 6]) (.tup [.str "TooMany", .str "figures", .int 6]) = some true := by decide +kernel
  simp only [encE, tmF] at he
  simp [encE, tmF, errR, setG, n1, n2, n3, n4, h1, h2, he, ht, -List.any_cons]
end G
namespace G
open PySem PySem.Spec PyProof.Rows L2

variable (k L : Nat)
theorem suite_bd {fx : Nat → Bool} {a b c d : Option Iv} {n : Int} {f : Str} (hf : PyData.strOk f = true) : suiteR (callF Pr G0 D0 L (k + 2)) G0 D0 fx "BadText" [("fault", .str f), ("line", .int n)] (SUs.cons (SU.ret (IE.ecall 350 (IE.var 4))) SUs.nil) (some 4) [a, b, c, d, none] = .ok (.ret (.val (.tup [.str "refused", .str "BadText", .int n, .str f]))) [a, b, c, d, none] := by
  refine suiteR_ok fun x => ?_
  have hr := rf_bad k L x n f hf
  simp only [encE, bdF] at hr
  simp [encE, setG, hr]
theorem suite_tm {fx : Nat → Bool} {a b c d : Option Iv} : suiteR (callF Pr G0 D0 L (k + 2)) G0 D0 fx "TooMany" [("limit", .int 6), ("what", .str "figures")] (SUs.cons (SU.ret (IE.ecall 350 (IE.var 4))) SUs.nil) (some 4) [a, b, c, d, none] = .ok (.ret (.val (.tup [.str "refused", .str "TooMany", .str "figures", .int 6]))) [a, b, c, d, none] := by
  refine suiteR_ok fun x => ?_
  have hr := rf_many k L x
  simp only [encE, tmF] at hr
  simp [encE, setG, hr]
/-- what law_cursor_says answers, and where the cursor stands behind it -/
def saysT (n : Int) (way : Int) (w sought f : Str) (m : Int) : T :=
  if way = 0 then .tup [.str "take", .str w]
  else if way = 1 then .tup [.str "taken", .bl (decide (w = sought))]
  else if way = 2 then (if w = sought then .tup [.str "need"] else .tup [.str "refused", .str "BadText", .int n, .str f])
  else if way = 4 then (if isNameW w = true then .tup [.str "name", .str w] else .tup [.str "refused", .str "BadText", .int n, .str f])
  else if isNumW w = true then (if 6 < w.length then .tup [.str "refused", .str "TooMany", .str "figures", .int 6] else .tup [.str "whole", .int m]) else .tup [.str "refused", .str "BadText", .int n, .str f]
def saysP (p : Nat) (way : Int) (w sought : Str) : Nat :=
  if way = 0 then p + 1
  else if way = 1 then (if w = sought then p + 1 else p)
  else if way = 2 then (if w = sought then p + 1 else p)
  else if way = 4 then (if isNameW w = true then p + 1 else p)
  else if isNumW w = true then (if 6 < w.length then p else p + 1) else p
set_option maxHeartbeats 4000000 in
theorem says_spec (ws : List Str) (n : Int) (hn : 0 ≤ n ∧ n ≤ 1000) (p : Nat) (hw : ws.length ≤ 1000) (hl : (wordAt ws p).length ≤ 640) (way : Int) (h3 : way ≠ 3) (x f : Str) (hf : f.length ≤ 100) (hfo : PyData.strOk f = true) {m : Int} (hm : isNumW (wordAt ws p) = true → (wordAt ws p).length ≤ 6 → intText? (wordAt ws p) = some m) :
    callF Pr G0 D0 L (k + 4) 143 [.own (curO ws n p), .val (.int way), .val (.str x), .val (.str f)] = .ok (.val (saysT n way (wordAt ws p) x f m)) [.own (curO ws n (saysP p way (wordAt ws p) x)), .val (.int way), .val (.str x), .val (.str f)] := by
  rw [callF_succ (f := ⟨4, 5, b_law_cursor_says_143⟩) rfl rfl]
  have t0 := take_spec (k + 1) L ws n p hw
  have t1 := taken_spec (k + 1) L ws n p hw x
  have t2 := need_spec k L ws n hn p hw x f hf
  have t4 := take_name_spec k L ws n hn p hw (by omega) f hf
  have t5 := take_whole_spec k L ws n hn p hw hl f hf hm
  have v0 := v_no "take" (by decide +kernel) ws n p
  have v1 := v_no "taken" (by decide +kernel) ws n p
  have v2 := v_no "need" (by decide +kernel) ws n p
  have v4 := v_no "take_name" (by decide +kernel) ws n p
  have v5 := v_no "take_whole" (by decide +kernel) ws n p
  have sb : ∀ a b c d : Option Iv, _ := fun a b c d => suite_bd (k + 1) L (fx := fxOf [.own (curO ws n p), .val (.int way), .val (.str x), .val (.str f)]) (a := a) (b := b) (c := c) (d := d) (n := n) (f := f) hfo
  have st : ∀ a b c d : Option Iv, _ := fun a b c d => suite_tm (k + 1) L (fx := fxOf [.own (curO ws n p), .val (.int way), .val (.str x), .val (.str f)]) (a := a) (b := b) (c := c) (d := d)
  generalize wordAt ws p = w at *
  simp only [curO] at *
  by_cases w0 : way = 0
  · subst w0
    simp [b_law_cursor_says_143, t0, v0, methOf, saysT, saysP]
  by_cases w1 : way = 1
  · subst w1
    by_cases hx : w = x
    · simp [hx] at t1
      simp [b_law_cursor_says_143, t1, v1, methOf, saysT, saysP, hx]
    · simp [hx] at t1
      simp [b_law_cursor_says_143, t1, v1, methOf, saysT, saysP, hx]
  by_cases w2 : way = 2
  · subst w2
    by_cases hx : w = x
    · simp [hx] at t2
      simp [b_law_cursor_says_143, t2, v2, methOf, saysT, saysP, hx]
    · simp [hx, bdX] at t2
      simp [b_law_cursor_says_143, t2, v2, methOf, saysT, saysP, hx, sb]
  by_cases w4 : way = 4
  · subst w4
    by_cases hx : isNameW w = true
    · simp [hx] at t4
      simp [b_law_cursor_says_143, t4, v4, methOf, saysT, saysP, hx]
    · simp [hx, bdX] at t4
      simp [b_law_cursor_says_143, t4, v4, methOf, saysT, saysP, hx, sb]
  · by_cases hx : isNumW w = true
    · by_cases h6 : 6 < w.length
      · simp [hx, h6, tmX] at t5
        simp [b_law_cursor_says_143, t5, v5, methOf, saysT, saysP, w0, w1, w2, w4, h3, hx, h6, st]
      · simp [hx, h6] at t5
        simp [b_law_cursor_says_143, t5, v5, methOf, saysT, saysP, w0, w1, w2, w4, h3, hx, h6]
    · simp [hx, bdX] at t5
      simp [b_law_cursor_says_143, t5, v5, methOf, saysT, saysP, w0, w1, w2, w4, h3, hx, sb]
theorem says_fin (ws : List Str) (n : Int) (hn : 0 ≤ n ∧ n ≤ 1000) (p : Nat) (hw : ws.length ≤ 1000) (x f : Str) (hf : f.length ≤ 100) (hfo : PyData.strOk f = true) :
    callF Pr G0 D0 L (k + 3) 143 [.own (curO ws n p), .val (.int 3), .val (.str x), .val (.str f)] = .ok (.val (if p < ws.length then .tup [.str "refused", .str "BadText", .int n, .str f] else .tup [.str "finish"])) [.own (curO ws n p), .val (.int 3), .val (.str x), .val (.str f)] := by
  rw [callF_succ (f := ⟨4, 5, b_law_cursor_says_143⟩) rfl rfl]
  have t3 := finish_spec (k + 1) L ws n hn p hw f hf
  have v3 := v_no "finish" (by decide +kernel) ws n p
  have sb : ∀ a b c d : Option Iv, _ := fun a b c d => suite_bd k L (fx := fxOf [.own (curO ws n p), .val (.int 3), .val (.str x), .val (.str f)]) (a := a) (b := b) (c := c) (d := d) (n := n) (f := f) hfo
  simp only [curO] at *
  by_cases h : p < ws.length
  · simp [h, bdX] at t3
    simp [b_law_cursor_says_143, t3, v3, methOf, h, sb]
  · simp [h] at t3
    simp [b_law_cursor_says_143, t3, v3, methOf, h]
end G
namespace G
open PySem PySem.Spec PyProof.Rows L2

variable (k L : Nat)
theorem in_strs {w : Str} {l : List Str} (hw : PyData.strOk w = true) (hl : ∀ v ∈ l, PyData.strOk v = true) : inR (.str w) (.lst (l.map T.str)) = some (decide (w ∈ l)) := by
  have h1 : (l.map T.str).all (fitT 39) = true := by
    simp only [List.all_map, List.all_eq_true, Function.comp, fitT]; exact hl
  simp only [inR, fitT, hw, h1, Bool.and_self, if_true]
  congr 1
  rw [List.any_map]
  apply Bool.eq_iff_iff.mpr
  simp [List.any_eq_true, eqT]
theorem signs_ok : ∀ v ∈ signs, PyData.strOk v = true := by
  have : (signs.all PyData.strOk) = true := by decide +kernel
  simpa using this
theorem signs_spec : callF Pr G0 D0 L (k + 1) 123 [] = .ok (.own (.lst (signs.map T.str))) [] := by
  rw [callF_succ (f := ⟨0, 0, b_law_signs⟩) rfl rfl]
  simp [b_law_signs, signs]
theorem apart_spec (a b : Str) (ha : PyData.strOk a = true) (hb : PyData.strOk b = true) : callF Pr G0 D0 L (k + 2) 124 [.val (.str a), .val (.str b)] = .ok (.val (.bl (apartB a b))) [.val (.str a), .val (.str b)] := by
  rw [callF_succ (f := ⟨2, 2, b_law_apart⟩) rfl rfl]
  have hs := signs_spec k L
  have i1 := in_strs ha signs_ok
  have i2 := in_strs hb signs_ok
  have i3 := in_strs (l := [":", "<", ">"]) ha (by
    have : (([":", "<", ">"] : List Str).all PyData.strOk) = true := by decide +kernel
    simpa using this)
  simp only [List.map_cons, List.map_nil] at i3
  generalize signs.map T.str = SG at *
  unfold apartB
  by_cases h1 : a ∈ signs
  · by_cases hb2 : b = "=="
    · simp [b_law_apart, hs, i1, i3, h1, eqR_strs, hb2]
    · simp [b_law_apart, hs, i1, i3, h1, eqR_strs, hb2]
  · by_cases h2 : b ∈ signs
    · by_cases hb2 : b = "=="
      · subst hb2
        simp [b_law_apart, hs, i1, i2, i3, h1, h2, eqR_strs]
      · simp [b_law_apart, hs, i1, i2, i3, h1, h2, eqR_strs, hb2]
    · simp [b_law_apart, hs, i1, i2, h1, h2]
end G
namespace G
open PySem PySem.Spec PyProof.Rows L2

variable (k L : Nat)
/-! # law_spaced (125) -/
def spEnv (j : Jar) (ws : List Str) (t : Str) (p b : Option Iv) : Env := [some (.own (jarO j)), some (.own (.lst (ws.map T.str))), some (.val (.str t)), p, b]
theorem spaced_spec (j : Jar) {ws : List Str} (hw : ∀ w ∈ ws, Wd w) (hl : ws.length ≤ 200) : ∃ (j' : Jar) (t : Str), Sp t ws ∧ callF Pr G0 D0 L (k + 3) 125 [.own (jarO j), .own (.lst (ws.map T.str))] = .ok (.val (.str t)) [.own (jarO j'), .own (.lst (ws.map T.str))] := by
  rw [callF_succ (f := ⟨2, 5, b_law_spaced⟩) rfl rfl]
  generalize hfx : fxOf [.own (jarO j), .own (.lst (ws.map T.str))] = fx
  have gg : fx 2 = false ∧ fx 3 = false ∧ fx 4 = false := by subst hfx; exact ⟨rfl, rfl, rfl⟩
  obtain ⟨g2, g3, g4⟩ := gg
  have one : (" " : Str).length ≤ 1000 := by decide +kernel
  obtain ⟨d0, j0, hd0, e0⟩ := drawn (k) L j 3 (by decide)
  obtain ⟨e', hl', j1, t1, l1, b1, p1, h1, h2, h3, h4⟩ := forL_ix (fx := fx) (tg := .name 3) (body := xcs (callF Pr G0 D0 L (k + 2)) G0 D0 fx L s_law_spaced_1) (N := ws.length) (e := spEnv j0 ws (repS " " (d0 : Int)) none none)
    (fun i e => ∃ j t l b p, e = spEnv j ws t p b ∧ Lx t.cps.toList (ws.take i) l ∧ (∀ u, l = some u → 0 < i ∧ ws[i - 1]? = some u) ∧ (∀ c ∈ t.cps.toList, c < 128 ∧ c ≠ 10) ∧ t.length ≤ 103 * i + 3) (by
      refine ⟨j0, _, none, none, none, rfl, ?_, (fun u hu => by cases hu), ?_, ?_⟩
      · rw [rep_blank (by omega)]; exact lx_blanks d0
      · rw [rep_blank (by omega)]
        intro c hc
        have := List.eq_of_mem_replicate hc
        omega
      · rw [rep_len (by omega)]; omega) (fun i e hi ⟨j, t, l, b, p, he, q1, q2, q3, q4⟩ => by
      subst he
      obtain ⟨w, hg⟩ : ∃ w, ws[i]? = some w := ⟨_, List.getElem?_eq_getElem hi⟩
      have hwd : Wd w := hw w (List.mem_of_getElem? hg)
      have hat := atI_str hg
      have htk : ws.take (i + 1) = ws.take i ++ [w] := by rw [List.take_succ, hg]; rfl
      have hwl := hwd.1
      by_cases h0 : i = 0
      · subst h0
        have z1 : t.length + w.length ≤ sizeLine := le_size (by omega)
        have hl0 : l = none := by
          cases l with
          | none => rfl
          | some u => exact absurd (q2 u rfl).1 (by omega)
        subst hl0
        rw [Int.natCast_zero] at hat
        refine ⟨_, _, by simp [spEnv, g3]; rfl, by simp [s_law_spaced_1, hat, z1, g2, -s_atI_1]; rfl, j, t ++ w, some w, b, some (.val (.int ((0 : Nat) : Int))), by simp [spEnv], ?_, fun u hu => ?_, ?_, ?_⟩
        · have := lx_step (b := 0) q1 hwd fun u hu => by cases hu
          rw [htk, tlapp]
          simpa using this
        · cases hu; exact ⟨by omega, hg⟩
        · intro c hc
          rw [tlapp, List.mem_append] at hc
          exact hc.elim (q3 c) (wd_ch hwd c)
        · rw [lenapp]; omega
      · have hi0 : 0 < i := by omega
        obtain ⟨u, hu⟩ : ∃ u, ws[i - 1]? = some u := ⟨_, List.getElem?_eq_getElem (by omega)⟩
        have hat2 := atI_str hu
        have ei : ((i - 1 : Nat) : Int) = (i : Int) - 1 := by omega
        rw [ei] at hat2
        have hud : Wd u := hw u (List.mem_of_getElem? hu)
        obtain ⟨d, j2, hd, e2⟩ := drawn k L j 3 (by decide)
        have hap := apart_spec k L u w (wd_ok hud) (wd_ok hwd)
        have fin : ∀ n : Nat, n ≤ 3 → (apartB u w = true → 1 ≤ n) → Lx (t ++ repS " " (n : Int) ++ w).cps.toList (ws.take (i + 1)) (some w) ∧ (∀ v, some w = some v → 0 < i + 1 ∧ ws[i + 1 - 1]? = some v) ∧ (∀ c ∈ (t ++ repS " " (n : Int) ++ w).cps.toList, c < 128 ∧ c ≠ 10) ∧ (t ++ repS " " (n : Int) ++ w).length ≤ 103 * (i + 1) + 3 ∧ t.length + (repS " " (n : Int)).length ≤ sizeLine ∧ (t ++ repS " " (n : Int)).length + w.length ≤ sizeLine := by
          intro n hn ha
          have hr := rep_len hn
          refine ⟨?_, fun v hv => ?_, fun c hc => ?_, ?_, ?_, ?_⟩
          · rw [htk, tlapp, tlapp, rep_blank hn]
            exact lx_step q1 hwd fun v hv hav => by
              have := (q2 v hv).2
              rw [hu] at this
              cases this
              exact ha hav
          · cases hv; exact ⟨by omega, hg⟩
          · rw [tlapp, tlapp, rep_blank hn, List.mem_append, List.mem_append] at hc
            rcases hc with (hc | hc) | hc
            · exact q3 c hc
            · have := List.eq_of_mem_replicate hc
              omega
            · exact wd_ch hwd c hc
          · rw [lenapp, lenapp, hr]; omega
          · rw [hr]; exact le_size (by omega)
          · rw [lenapp, hr]; exact le_size (by omega)
        by_cases hd0 : d = 0
        · subst hd0
          cases ha : apartB u w with
          | true =>
            rw [ha] at hap
            obtain ⟨a1, a2, a3, a4, a5, a6⟩ := fin 1 (by omega) (fun _ => by omega)
            simp only [Int.natCast_one] at a1 a3 a4 a5 a6
            exact ⟨_, _, by simp [spEnv, g3]; rfl, by simp [s_law_spaced_1, e2, hat, hat2, hap, hi0, h0, one, a5, a6, g2, g4, -s_atI_1]; rfl, j2, _, some w, some (.val (.int 1)), some (.val (.int (i : Int))), by simp [spEnv], a1, a2, a3, a4⟩
          | false =>
            rw [ha] at hap
            obtain ⟨a1, a2, a3, a4, a5, a6⟩ := fin 0 (by omega) (fun q => by rw [ha] at q; cases q)
            simp only [Int.natCast_zero] at a1 a3 a4 a5 a6 e2
            exact ⟨_, _, by simp [spEnv, g3]; rfl, by simp [s_law_spaced_1, e2, hat, hat2, hap, hi0, h0, one, a5, a6, g2, g4, -s_atI_1]; rfl, j2, _, some w, some (.val (.int 0)), some (.val (.int (i : Int))), by simp [spEnv], a1, a2, a3, a4⟩
        · obtain ⟨a1, a2, a3, a4, a5, a6⟩ := fin d (by omega) (fun _ => by omega)
          have b1 : (d : Int) < 1000 ∧ -1000 < (d : Int) := by omega
          exact ⟨_, _, by simp [spEnv, g3]; rfl, by simp [s_law_spaced_1, e2, hat, hat2, hd0, b1, hi0, h0, one, a5, a6, g2, g4, -s_atI_1]; rfl, j2, _, some w, some (.val (.int (d : Int))), some (.val (.int (i : Int))), by simp [spEnv], a1, a2, a3, a4⟩)
  subst h1
  have f1 : xc (callF Pr G0 D0 L (k + 2)) G0 D0 fx L f_law_spaced_1 (spEnv j0 ws (repS " " (d0 : Int)) none none) = _ :=
    for_ok (items := rngT 0 ws.length) (lk := none) (e1 := spEnv j0 ws (repS " " (d0 : Int)) none none) (by
      have hi := inRng_nat (z := ws.length) (by omega)
      have hz : ws.length ≤ sizeLine := le_size (by omega)
      simp [spEnv, hi, hz]) hl'
  simp only [unlockE] at f1
  obtain ⟨d3, j3, hd3, e3⟩ := drawn k L j1 3 (by decide)
  have b0 : (d0 : Int) < 1000 ∧ -1000 < (d0 : Int) := by omega
  have b3 : (d3 : Int) < 1000 ∧ -1000 < (d3 : Int) := by omega
  have hr3 := rep_len (n := d3) (by omega)
  have z3 : t1.length + (repS " " (d3 : Int)).length ≤ sizeLine := by rw [hr3]; exact le_size (by omega)
  rw [List.take_length] at h2
  have h6 := h4.2
  obtain ⟨l4, h5⟩ := lx_end d3 h2
  simp only [spEnv] at f1
  refine ⟨j3, t1 ++ repS " " (d3 : Int), ⟨⟨l4, by rw [tlapp, rep_blank (by omega)]; exact h5⟩, fun c hc => ?_, by rw [lenapp, hr3]; omega⟩, ?_⟩
  · rw [tlapp, rep_blank (by omega), List.mem_append] at hc
    rcases hc with hc | hc
    · exact h4.1 c hc
    · have := List.eq_of_mem_replicate hc
      omega
  · simp [b_law_spaced, e0, e3, one, b0, b3, f1, z3, g2]
end G
namespace G
open PySem PySem.Spec PyProof.Rows L2

/-! # law_name (42) -/
def abcL : Str := "abcdefghijklmnopqrstuvwxyz"
def abcD : Str := abcL ++ "0123456789"
theorem abcL_at (d : Nat) (h : d < 26) : ∃ c, atI abcL.cps.toList (d : Int) = some c ∧ isLet c = true := by
  have : ∀ d : Fin 26, ∃ c, atI abcL.cps.toList (d.val : Int) = some c ∧ isLet c = true := by
    intro d
    have h2 : ∀ d : Fin 26, (match atI abcL.cps.toList (d.val : Int) with | some c => isLet c | none => false) = true := by decide +kernel
    have h3 := h2 d
    split at h3
    · rename_i c hc; exact ⟨c, hc, h3⟩
    · cases h3
  exact this ⟨d, h⟩
theorem abcD_at (d : Nat) (h : d < 36) : ∃ c, atI abcD.cps.toList (d : Int) = some c ∧ isAl c = true := by
  have : ∀ d : Fin 36, ∃ c, atI abcD.cps.toList (d.val : Int) = some c ∧ isAl c = true := by
    intro d
    have h2 : ∀ d : Fin 36, (match atI abcD.cps.toList (d.val : Int) with | some c => isAl c | none => false) = true := by decide +kernel
    have h3 := h2 d
    split at h3
    · rename_i c hc; exact ⟨c, hc, h3⟩
    · cases h3
  exact this ⟨d, h⟩
variable (k L : Nat)
/-- a name: a letter, then letters, digits and inner dots -/
def Nm (w : Str) (m : Nat) : Prop := ∃ c r, w.cps.toList = c :: r ∧ isLet c = true ∧ nmL r = r.length ∧ r.length ≤ m
theorem Nm.wd {w : Str} {m : Nat} (h : Nm w m) (hm : m ≤ 90) : Wd w := by
  obtain ⟨c, r, h1, h2, h3, h4⟩ := h
  have : w.length = w.cps.toList.length := TL.len_tl w
  rw [h1, List.length_cons] at this
  exact ⟨by omega, .inl ⟨c, r, h1, h2, h3⟩⟩
theorem wname_spec (j : Jar) : ∃ (w : Str) (j' : Jar), Nm w 60 ∧ callF Pr G0 D0 L (k + 3) 42 [.own (jarO j)] = .ok (.val (.str w)) [.own (jarO j')] := by
  rw [callF_succ (f := ⟨1, 5, b_law_name⟩) rfl rfl]
  generalize hfx : fxOf [.own (jarO j)] = fx
  have gg : fx 1 = false ∧ fx 2 = false ∧ fx 3 = false ∧ fx 4 = false := by subst hfx; exact ⟨rfl, rfl, rfl, rfl⟩
  obtain ⟨g1, g2, g3, g4⟩ := gg
  obtain ⟨a, j1, ha, h1⟩ := drawn k L j 26 (by decide)
  obtain ⟨c, hc, hc2⟩ := abcL_at a (by omega)
  obtain ⟨b, j2, hb, h2⟩ := drawn k L j1 12 (by decide)
  have habc : (T.str "abcdefghijklmnopqrstuvwxyz") = .str abcL := rfl
  have hz0 : abcL.length ≤ sizeLine := le_size (by decide)
  have hz1 : abcD.length ≤ sizeLine := le_size (by decide)
  have hz2 : abcL.length + ("0123456789" : Str).length ≤ sizeLine := le_size (by decide)
  have h9 : abcL ++ ("0123456789" : Str) = abcD := rfl
  have more : ∃ (n : Nat) (j3 : Jar), n ≤ 30 ∧ ((0 < (b : Int) ∧ callF Pr G0 D0 L (k + 2) 15 [.own (jarO j2), .val (.int 4)] = .ok (.val (.int (n : Int))) [.own (jarO j3), .val (.int 4)]) ∨ (¬ 0 < (b : Int) ∧ callF Pr G0 D0 L (k + 2) 15 [.own (jarO j2), .val (.int 30)] = .ok (.val (.int (n : Int))) [.own (jarO j3), .val (.int 30)])) := by
    by_cases hb0 : 0 < (b : Int)
    · obtain ⟨n, j3, hn, h3⟩ := drawn k L j2 4 (by decide)
      exact ⟨n, j3, by omega, .inl ⟨hb0, h3⟩⟩
    · obtain ⟨n, j3, hn, h3⟩ := drawn k L j2 30 (by decide)
      exact ⟨n, j3, by omega, .inr ⟨hb0, h3⟩⟩
  obtain ⟨n, j3, hn, h3⟩ := more
  obtain ⟨e', hl', j4, w, x, ⟨c0, r, w1, w2, w3, w4⟩, he'⟩ := forL_ix (fx := fx) (tg := .name 4) (body := xcs (callF Pr G0 D0 L (k + 2)) G0 D0 fx L s_law_name_1) (N := n) (e := [some (.own (jarO j3)), some (.val (.str abcL)), some (.val (.str ⟨#[c]⟩)), some (.val (.int (n : Int))), none])
    (fun i e => ∃ j w x, Nm w (2 * i) ∧ e = [some (.own (jarO j)), some (.val (.str abcL)), some (.val (.str w)), some (.val (.int (n : Int))), x]) ⟨j3, _, none, ⟨c, [], rfl, hc2, rfl, by simp⟩, rfl⟩ (fun i e hi ⟨j4, w, x, ⟨c0, r, w1, w2, w3, w4⟩, he⟩ => by
      subst he
      obtain ⟨d, j5, hd, h5⟩ := drawn k L j4 8 (by decide)
      obtain ⟨t, j6, ht, h6⟩ := drawn k L j5 36 (by decide)
      obtain ⟨ch, hch, hch2⟩ := abcD_at t (by omega)
      have hlen : w.length = w.cps.toList.length := TL.len_tl w
      rw [w1, List.length_cons] at hlen
      have hone : (⟨#[ch]⟩ : Str).length = 1 := rfl
      have hdot : ("." : Str).length = 1 := by decide +kernel
      have z1 : w.length + ("." : Str).length ≤ sizeLine := by rw [hdot]; exact le_size (by omega)
      have z2 : w.length + (⟨#[ch]⟩ : Str).length ≤ sizeLine := by rw [hone]; exact le_size (by omega)
      have z3 : (w ++ ("." : Str)).length + (⟨#[ch]⟩ : Str).length ≤ sizeLine := by rw [lenapp, hdot, hone]; exact le_size (by omega)
      by_cases h0 : d = 0
      · refine ⟨_, _, by simp [g4]; rfl, by simp [-s_atI_1, s_law_name_1, h5, h0, h6, hch, hz1, hz2, h9, z1, z3, g2]; rfl, j6, w ++ ("." : Str) ++ ⟨#[ch]⟩, some (.val (.int (i : Int))), ⟨c0, r ++ [46, ch], ?_, w2, ?_, ?_⟩, by simp⟩
        · rw [tlapp, tlapp, w1]
          have : ("." : Str).cps.toList = [46] := by decide +kernel
          rw [this]
          simp
        · rw [nmL_full _ w3, List.length_append]
          have h46 : isAl 46 = false := by decide +kernel
          simp [nmL, h46, hch2]
        · rw [List.length_append]; simp; omega
      · refine ⟨_, _, by simp [g4]; rfl, by simp [-s_atI_1, s_law_name_1, h5, h0, h6, hch, hz1, hz2, h9, z2, g2]; rfl, j6, w ++ ⟨#[ch]⟩, some (.val (.int (i : Int))), ⟨c0, r ++ [ch], ?_, w2, ?_, ?_⟩, by simp⟩
        · rw [tlapp, w1]; simp
        · rw [nmL_full _ w3, List.length_append]
          simp [nmL, hch2]
        · rw [List.length_append]; simp; omega)
  subst he'
  have f1 : xc (callF Pr G0 D0 L (k + 2)) G0 D0 fx L f_law_name_1 [some (.own (jarO j3)), some (.val (.str abcL)), some (.val (.str ⟨#[c]⟩)), some (.val (.int (n : Int))), none] = _ :=
    for_ok (items := rngT 0 n) (lk := none) (e1 := [some (.own (jarO j3)), some (.val (.str abcL)), some (.val (.str ⟨#[c]⟩)), some (.val (.int (n : Int))), none]) (by
      have hi := inRng_nat (z := n) (by omega)
      simp [hi]) hl'
  simp only [unlockE] at f1
  refine ⟨w, j4, ⟨c0, r, w1, w2, w3, by omega⟩, ?_⟩
  rcases h3 with ⟨hb0, h3⟩ | ⟨hb0, h3⟩
  · have hb1 : 0 < b := by omega
    simp [-s_atI_1, b_law_name, habc, h1, hc, hz0, h2, hb1, h3, f1, g1, g2, g3]
  · have hb1 : b = 0 := by omega
    subst hb1
    simp at h2
    simp [-s_atI_1, b_law_name, habc, h1, hc, hz0, h2, h3, f1, g1, g2, g3]
/-! # law_bad (126) -/
structure Bs (b : Str) : Prop where
  bd : ∀ r, Bd (b.cps.toList ++ r)
  ch : ∀ c ∈ b.cps.toList, c < 128 ∧ c ≠ 10
  len : b.length ≤ 3
def badL : Str := "!\"#$&'*;?\x40[\\]^_`{}~ABCDEFGHIJKLMNOPQRSTUVWXYZ"
theorem bs_char {c : Nat} (hc : c ∈ badL.cps.toList) : Bs ⟨#[c]⟩ := by
  have h1 : (badL.cps.toList.all fun c => decide (c ≠ 32) && !isAl c && decide (c ≠ 46) && decide (c ∉ heads) && decide (c < 128) && decide (c ≠ 10)) = true := by decide +kernel
  rw [List.all_eq_true] at h1
  have h2 := h1 c hc
  simp only [Bool.and_eq_true, Bool.not_eq_true', decide_eq_true_eq] at h2
  refine ⟨fun r => bd_sign h2.1.1.1.1.1 h2.1.1.1.1.2 h2.1.1.1.2 h2.1.1.2 r, fun d hd => ?_, by show 1 ≤ 3; omega⟩
  have : d = c := by simpa using hd
  subst this
  exact ⟨h2.1.2, h2.2⟩
theorem bs_eq : Bs " = " := by
  have e : (" = " : Str).cps.toList = [32, 61, 32] := by decide +kernel
  refine ⟨fun r => ?_, fun c hc => ?_, by decide +kernel⟩
  · rw [e]; exact bd_sp (by decide) (by decide +kernel) (sgL_eq (by simp))
  · rw [e] at hc
    simp at hc
    omega
theorem bs_dots {s : Str} (h : s ∈ ([" .", ". ", ".."] : List Str)) : Bs s := by
  have h46 : isAl 46 = false := by decide +kernel
  simp only [List.mem_cons, List.not_mem_nil, or_false] at h
  rcases h with rfl | rfl | rfl
  · have e : (" ." : Str).cps.toList = [32, 46] := by decide +kernel
    refine ⟨fun r => ?_, fun c hc => ?_, by decide +kernel⟩
    · rw [e]; exact bd_sp (by decide) h46 (sgL_none (by decide) _)
    · rw [e] at hc; simp at hc; omega
  · have e : (". " : Str).cps.toList = [46, 32] := by decide +kernel
    refine ⟨fun r => ?_, fun c hc => ?_, by decide +kernel⟩
    · rw [e]; exact bd_dot fun d hd => by simp at hd; subst hd; exact al32
    · rw [e] at hc; simp at hc; omega
  · have e : (".." : Str).cps.toList = [46, 46] := by decide +kernel
    refine ⟨fun r => ?_, fun c hc => ?_, by decide +kernel⟩
    · rw [e]; exact bd_dot fun d hd => by simp at hd; subst hd; exact h46
    · rw [e] at hc; simp at hc; omega
theorem picked_str (j : Jar) {pool : List Str} (hne : pool ≠ []) (hl : pool.length ≤ 1000) (iv : Iv) (hiv : iv = .own (.lst (pool.map T.str)) ∨ iv = .lck (.lst (pool.map T.str)) ∨ iv = .val (.lst (pool.map T.str)) ∨ iv = .val (.tup (pool.map T.str))) : ∃ (j' : Jar) (s : Str), s ∈ pool ∧ callF Pr G0 D0 L (k + 3) 17 [.own (jarO j), iv] = .ok (.val (.str s)) [.own (jarO j'), iv] := by
  have h0 : 0 < (pool.map T.str).length := by
    rw [List.length_map]; exact List.length_pos_iff.mpr hne
  have hm := pickV_mem j h0
  obtain ⟨s, hs, e⟩ := List.mem_map.mp hm
  have := pick_spec k L j iv (pool.map T.str) hiv h0 (by rw [List.length_map]; omega)
  exact ⟨_, s, hs, by rw [this, ← e]⟩
/-- a sign of a text, picked -/
theorem picked_sign (j : Jar) {A : Str} (h0 : 0 < A.length) (hl : A.length ≤ 1000) : ∃ (j' : Jar) (c : Nat), c ∈ A.cps.toList ∧ callF Pr G0 D0 L (k + 3) 17 [.own (jarO j), .val (.str A)] = .ok (.val (.str ⟨#[c]⟩)) [.own (jarO j'), .val (.str A)] := by
  rw [callF_succ (f := ⟨2, 2, b_law_pick⟩) rfl rfl]
  obtain ⟨d, j', hd, h1⟩ := drawn k L j A.length (by omega)
  have hlen : A.length = A.cps.toList.length := TL.len_tl A
  have hlt : d < A.cps.toList.length := by omega
  have hat := at_str (z := A) (List.getElem?_eq_getElem hlt) (by omega)
  have hz : A.length ≤ sizeLine := le_size (by omega)
  refine ⟨j', _, List.getElem_mem hlt, ?_⟩
  simp [b_law_pick, h1, hz, hat, -s_ixR_4]
theorem bad_spec (j : Jar) : ∃ (j' : Jar) (b : Str), Bs b ∧ callF Pr G0 D0 L (k + 4) 126 [.own (jarO j)] = .ok (.val (.str b)) [.own (jarO j')] := by
  rw [callF_succ (f := ⟨1, 2, b_law_bad⟩) rfl rfl]
  obtain ⟨d, j1, hd, h1⟩ := drawn (k + 1) L j 6 (by decide)
  obtain ⟨j2, s, hs, h2⟩ := picked_str k L j1 (pool := [" .", ". ", ".."]) (by simp) (by simp) _ (.inl rfl)
  obtain ⟨j3, c, hc, h3⟩ := picked_sign k L j1 (A := badL) (by decide +kernel) (by decide +kernel)
  simp only [List.map_cons, List.map_nil] at h2
  unfold badL at h3
  by_cases d0 : d = 0
  · exact ⟨j1, _, bs_eq, by simp [b_law_bad, h1, d0]⟩
  · by_cases d1 : d = 1
    · exact ⟨j2, _, bs_dots hs, by simp [b_law_bad, h1, d1, h2]⟩
    · have d1' : ¬ (d : Int) = 1 := by omega
      exact ⟨j3, _, bs_char hc, by simp [b_law_bad, h1, d0, d1, d1', h3]⟩
end G
namespace G
open PySem PySem.Spec PyProof.Rows L2

variable (k L : Nat)
/-! # law_word (128) -/
theorem joinL_nil : ∀ ps : List (List Nat), TL.joinL [] ps = ps.flatten
  | [] => rfl
  | [p] => by simp [TL.joinL]
  | p :: q :: r => by
    have := joinL_nil (q :: r)
    simp only [TL.joinL, List.nil_append] at this ⊢
    rw [this]
    simp
theorem strsT_map : ∀ l : List Str, strsT (l.map T.str) = some l
  | [] => rfl
  | a :: as => by simp [strsT, strsT_map as]
/-- a text of one digit -/
def Dg (s : Str) : Prop := ∃ c, s.cps.toList = [c] ∧ isDig c = true
theorem dg_num {d : Nat} (h : d < 10) : Dg (Str.ofString (toString (d : Int))) := by
  have : ∀ d : Fin 10, (Str.ofString (toString (((d.val : Nat)) : Int))).cps.toList = [48 + d.val] ∧ isDig (48 + d.val) = true := by decide +kernel
  exact ⟨48 + d, this ⟨d, h⟩⟩
theorem dgs_flat : ∀ {ss : List Str}, (∀ s ∈ ss, Dg s) → (∀ c ∈ (ss.map fun s => s.cps.toList).flatten, isDig c = true) ∧ (ss.map fun s => s.cps.toList).flatten.length = ss.length
  | [], _ => ⟨by simp, rfl⟩
  | s :: ss, h => by
    obtain ⟨c, h1, h2⟩ := h s (by simp)
    obtain ⟨h3, h4⟩ := dgs_flat (ss := ss) fun u hu => h u (by simp [hu])
    rw [List.map_cons, List.flatten_cons, h1]
    refine ⟨fun d hd => ?_, by rw [List.length_append, h4]; simp; omega⟩
    rcases List.mem_append.mp hd with q | q
    · have : d = c := by simpa using q
      rw [this]; exact h2
    · exact h3 d q
def Nu (w : Str) : Prop := w.cps.toList ≠ [] ∧ (∀ c ∈ w.cps.toList, isDig c = true) ∧ w.length ≤ 9
theorem Nu.wd {w : Str} (h : Nu w) : Wd w := ⟨by have := h.2.2; omega, .inr (.inl ⟨h.1, h.2.1⟩)⟩
theorem digits_join {ss : List Str} (h : ∀ s ∈ ss, Dg s) (h0 : ss ≠ []) (hl : ss.length ≤ 9) : Nu (Txt.join ("" : Str) ss) ∧ met1R .join ("" : Str) (.lst (ss.map T.str)) = some (.val (.str (Txt.join ("" : Str) ss))) := by
  obtain ⟨h1, h2⟩ := dgs_flat h
  have e0 : TL.tl ("" : Str) = [] := by decide +kernel
  have e : (Txt.join ("" : Str) ss).cps.toList = (ss.map fun s => s.cps.toList).flatten := by
    have h3 : Txt.join ("" : Str) ss = Str.join ("" : Str) ss := TL.join_eq _ _
    rw [h3]
    refine (TL.tl_join _ _).trans ?_
    rw [e0, joinL_nil]
  have hlen : (Txt.join ("" : Str) ss).length = (Txt.join ("" : Str) ss).cps.toList.length := TL.len_tl _
  rw [e, h2] at hlen
  refine ⟨⟨?_, by rw [e]; exact h1, by omega⟩, ?_⟩
  · rw [e]
    intro q
    have := congrArg List.length q
    rw [h2] at this
    exact h0 (List.length_eq_zero_iff.mp this)
  · have h4 : (ss.map Str.length).sum = ss.length := by
      clear e hlen h2 h1 hl h0
      induction ss with
      | nil => rfl
      | cons a as ih =>
        obtain ⟨c, q1, _⟩ := h a (by simp)
        have : a.length = 1 := by rw [TL.len_tl a]; show a.cps.toList.length = 1; rw [q1]; rfl
        rw [List.map_cons, List.sum_cons, ih fun u hu => h u (by simp [hu]), List.length_cons]
        omega
    have h5 : ("" : Str).length = 0 := by decide +kernel
    simp only [met1R, seqA, Option.bind_some, strsT_map, h4, h5]
    rw [if_pos (by omega)]
theorem digits_lc (j : Jar) (way : Iv) (x : Option Iv) : ∃ (ss : List Str) (j' : Jar), (∀ s ∈ ss, Dg s) ∧ ss ≠ [] ∧ ss.length ≤ 9 ∧
    ev (callF Pr G0 D0 L (k + 2)) G0 D0 e_law_word_128_1 [some (.own (jarO j)), some way, none] = .ok (.new (.lst (ss.map T.str))) [some (.own (jarO j')), some way, none] := by
  obtain ⟨d, j1, hd, h1⟩ := drawn k L j 9 (by decide)
  have ei : (1 : Int) + (d : Int) = ((d + 1 : Nat) : Int) := by omega
  obtain ⟨ys, w, hev, hyl, hys, j2, hw⟩ := lc_inv (C := callF Pr G0 D0 L (k + 2)) (G := G0) (D := D0) (src := Src.rng1 (IE.bin Operator.Add (IE.int 1) (IE.call 15 (IEs.cons (IE.var 0) (IEs.cons (IE.int 9) IEs.nil))))) (tg := Tgt.name 2) (cond := IBO.none) (own := [("step", 2)]) (elt := IE.bi BI.str (IEs.cons (IE.call 15 (IEs.cons (IE.var 0) (IEs.cons (IE.int 10) IEs.nil))) IEs.nil))
    (env := [some (.own (jarO j)), some way, none]) (e1 := [some (.own (jarO j1)), some way, none]) (lk := none) (xs := rngT 0 (d + 1))
    (fun e => ∃ j2, e = [some (.own (jarO j2)), some way, none]) (fun y => ∃ s, y = .str s ∧ Dg s) (by
      have hi := inRng_nat (z := d + 1) (by omega)
      simp [h1]
      rw [ei, hi]
      rfl) ⟨j1, rfl⟩
    (fun x hx e ⟨j2, he⟩ => by
      subst he
      obtain ⟨d2, j3, hd2, h3⟩ := drawn k L j2 10 (by decide)
      have hlog : d2.log2 < 1920 := by
        by_cases h0 : d2 = 0
        · subst h0; decide
        · have : d2.log2 < 4 := (Nat.log2_lt h0).mpr (by omega)
          omega
      exact ⟨_, .str (Str.ofString (toString (d2 : Int))), [some (.own (jarO j3)), some way, some (.val x)], by simp; rfl, by simp [h3, hlog], ⟨j3, by simp⟩, _, rfl, dg_num (by omega)⟩) (by simp [rngT]; exact lt_size (by omega))
  subst hw
  obtain ⟨ss, rfl, hss⟩ := choose_map (f := T.str) (R := Dg) hys
  have hl : (rngT 0 (d + 1)).length = d + 1 := by simp [rngT]
  rw [hl, List.length_map] at hyl
  refine ⟨ss, j2, hss, ?_, by omega, hev⟩
  intro e
  rw [e] at hyl
  simp at hyl
theorem signs_pick (j : Jar) : ∃ (j' : Jar) (s : Str), s ∈ signs ∧ callF Pr G0 D0 L (k + 3) 17 [.own (jarO j), .own (.lst (signs.map T.str))] = .ok (.val (.str s)) [.own (jarO j'), .own (.lst (signs.map T.str))] :=
  picked_str k L j (by decide +kernel) (by decide +kernel) _ (.inl rfl)
/-- a word: a name, a number of up to nine figures, a sign -/
def Wo (w : Str) : Prop := Nm w 60 ∨ Nu w ∨ w ∈ signs
theorem Wo.wd {w : Str} (h : Wo w) : Wd w := by
  rcases h with h | h | h
  · exact h.wd (by omega)
  · exact h.wd
  · have h1 : (signs.all fun s => decide (s.length ≤ 100)) = true := by decide +kernel
    rw [List.all_eq_true] at h1
    exact ⟨by simpa using h1 w h, .inr (.inr h)⟩
theorem word_spec (j : Jar) : ∃ (w : Str) (j' : Jar), Wo w ∧ callF Pr G0 D0 L (k + 4) 128 [.own (jarO j)] = .ok (.val (.str w)) [.own (jarO j')] := by
  rw [callF_succ (f := ⟨1, 3, b_law_word_128⟩) rfl rfl]
  obtain ⟨d, j1, hd, h1⟩ := drawn (k + 1) L j 4 (by decide)
  by_cases d0 : d = 0
  · obtain ⟨w, j2, hw, h2⟩ := wname_spec k L j1
    exact ⟨w, j2, .inl hw, by simp [b_law_word_128, h1, d0, h2]⟩
  · by_cases d1 : d = 1
    · subst d1
      obtain ⟨ss, j2, s1, s2, s3, h2⟩ := digits_lc (k + 1) L j1 (.val (.int 1)) none
      obtain ⟨n1, n2⟩ := digits_join s1 s2 s3
      refine ⟨_, j2, .inr (.inl n1), ?_⟩
      rw [Int.natCast_one] at h1
      generalize ss.map T.str = SS at h2 n2
      simp [b_law_word_128, h1, h2, n2]
    · obtain ⟨j2, s, hs, h2⟩ := signs_pick k L j1
      have h3 := signs_spec (k + 2) L
      have d1' : ¬ (d : Int) = 1 := by omega
      generalize signs.map T.str = SG at h2 h3
      exact ⟨s, j2, .inr (.inr hs), by simp [b_law_word_128, h1, d0, d1, d1', h3, h2]⟩
/-! # law_row (129) -/
theorem row_spec (j : Jar) : ∃ (ws : List Str) (j' : Jar), (∀ w ∈ ws, Wo w) ∧ ws.length ≤ 60 ∧ callF Pr G0 D0 L (k + 5) 129 [.own (jarO j)] = .ok (.own (.lst (ws.map T.str))) [.own (jarO j')] := by
  rw [callF_succ (f := ⟨1, 3, b_law_row⟩) rfl rfl]
  generalize hfx : fxOf [.own (jarO j)] = fx
  have g1 : fx 1 = false := by subst hfx; rfl
  obtain ⟨a, j1, ha, h1⟩ := drawn (k + 2) L j 13 (by decide)
  obtain ⟨b, j2, hb, h2⟩ := drawn (k + 2) L j1 8 (by decide)
  obtain ⟨c, j3, hc, h3⟩ := drawn (k + 2) L j2 61 (by decide)
  have row : ∀ (n : Nat) (j : Jar), n ≤ 60 → ∃ (ws : List Str) (j' : Jar), (∀ w ∈ ws, Wo w) ∧ ws.length ≤ 60 ∧ ev (callF Pr G0 D0 L (k + 4)) G0 D0 e_law_row_1 [some (.own (jarO j)), some (.val (.int (n : Int))), none] = .ok (.new (.lst (ws.map T.str))) [some (.own (jarO j')), some (.val (.int (n : Int))), none] := by
    intro n j hn
    obtain ⟨ys, w, hev, hyl, hys, j2, hw⟩ := lc_inv (C := callF Pr G0 D0 L (k + 4)) (G := G0) (D := D0) (src := Src.rng1 (IE.var 1)) (tg := Tgt.name 2) (cond := IBO.none) (own := [("step", 2)]) (elt := IE.call 128 (IEs.cons (IE.var 0) IEs.nil))
      (env := [some (.own (jarO j)), some (.val (.int (n : Int))), none]) (e1 := [some (.own (jarO j)), some (.val (.int (n : Int))), none]) (lk := none) (xs := rngT 0 n)
      (fun e => ∃ j2, e = [some (.own (jarO j2)), some (.val (.int (n : Int))), none]) (fun y => ∃ s, y = .str s ∧ Wo s) (by
        have hi := inRng_nat (z := n) (by omega)
        simp [hi]) ⟨j, rfl⟩
      (fun x hx e ⟨j2, he⟩ => by
        subst he
        obtain ⟨w, j3, hw, h3⟩ := word_spec k L j2
        exact ⟨_, .str w, [some (.own (jarO j3)), some (.val (.int (n : Int))), some (.val x)], by simp; rfl, by simp [h3], ⟨j3, by simp⟩, _, rfl, hw⟩) (by simp [rngT]; exact lt_size (by omega))
    subst hw
    obtain ⟨ss, rfl, hss⟩ := choose_map (f := T.str) (R := Wo) hys
    have hl : (rngT 0 n).length = n := by simp [rngT]
    rw [hl, List.length_map] at hyl
    exact ⟨ss, j2, hss, by omega, hev⟩
  by_cases b0 : b = 0
  · obtain ⟨ws, j', q1, q2, q3⟩ := row c j3 (by omega)
    refine ⟨ws, j', q1, q2, ?_⟩
    generalize ws.map T.str = SS at q3
    simp [b_law_row, h1, h2, h3, b0, q3, g1]
  · obtain ⟨ws, j', q1, q2, q3⟩ := row a j2 (by omega)
    refine ⟨ws, j', q1, q2, ?_⟩
    generalize ws.map T.str = SS at q3
    simp [b_law_row, h1, h2, b0, q3, g1]
end G
namespace G
open PySem PySem.Spec PyProof.Rows L2

/-! # data that repr takes: signs and items alone are counted -/
structure Rb (B k n : Nat) (t : T) : Prop where
  fit : fitR k t = true
  shw : (toD k t).showable = true
  lvs : (toD k t).leavesShort B = true
  blk : (toD k t).bulk ≤ n
theorem Rb.mono {B k n m : Nat} {t : T} (h : Rb B k n t) (hm : n ≤ m) : Rb B k m t := ⟨h.fit, h.shw, h.lvs, Nat.le_trans h.blk hm⟩
theorem rb_str {B k : Nat} {s : Str} (h : PyData.strOk s = true) : Rb B k s.length (.str s) := by
  have h1 := rp_str (B := B) (k := k) h
  have e : toD k (.str s) = .str s := by cases k <;> rfl
  exact ⟨h1.fit, h1.shw, h1.lvs, by rw [e]; exact Nat.le_refl _⟩
theorem rb_int {B k b : Nat} {i : Int} (hb : 0 < b) (h : i.natAbs < 2 ^ b) (hB : b < B) (hB2 : B ≤ 1900) : Rb B k 0 (.int i) := by
  have h1 := rp_int (k := k) hb h hB hB2
  have e : toD k (.int i) = .int i := by cases k <;> rfl
  exact ⟨h1.fit, h1.shw, h1.lvs, by rw [e]; exact Nat.le_refl _⟩
theorem rb_nil {B k : Nat} : Rb B (k + 1) 0 (.tup []) ∧ Rb B (k + 1) 0 (.lst []) := ⟨⟨rfl, rfl, rfl, Nat.le_refl _⟩, ⟨rfl, rfl, rfl, Nat.le_refl _⟩⟩
theorem rb_cons {B k n m : Nat} {x : T} {xs : List T} (h : Rb B k n x) (h2 : Rb B (k + 1) m (.tup xs)) : Rb B (k + 1) (n + 1 + m) (.tup (x :: xs)) := by
  have a := h2.fit
  have b := h2.shw
  have c := h2.lvs
  have d := h2.blk
  simp only [fitR] at a
  simp only [toD, PyData.showable] at b
  simp only [toD, PyData.leavesShort] at c
  simp only [toD, PyData.bulk] at d
  have e := h.blk
  refine ⟨by simp only [fitR, List.all_cons, h.fit, a, Bool.and_self], by simp only [toD, List.map_cons, PyData.showable, PyData.showableAll, h.shw, b, Bool.and_self], by simp only [toD, List.map_cons, PyData.leavesShort, PyData.leavesShortAll, h.lvs, c, Bool.and_self], ?_⟩
  simp only [toD, List.map_cons, PyData.bulk, PyData.bulkAll]
  omega
theorem rb_lst {B k n : Nat} {xs : List T} (h : Rb B (k + 1) n (.tup xs)) : Rb B (k + 1) n (.lst xs) := by
  have a := h.fit
  have b := h.shw
  have c := h.lvs
  have d := h.blk
  exact ⟨a, by simpa only [toD, PyData.showable] using b, by simpa only [toD, PyData.leavesShort] using c, by simpa only [toD, PyData.bulk] using d⟩
theorem rb_all {B k n : Nat} : ∀ {xs : List T}, (∀ x ∈ xs, Rb B k n x) → Rb B (k + 1) ((n + 1) * xs.length) (.tup xs)
  | [], _ => rb_nil.1
  | x :: xs, h => by
    refine (rb_cons (h x (by simp)) (rb_all (xs := xs) fun y hy => h y (by simp [hy]))).mono ?_
    rw [List.length_cons, Nat.mul_add, Nat.mul_one]
    omega
theorem rb_dic {B k n m : Nat} {kvs : List (Key × T)} (h : ∀ kv ∈ kvs, Rb B k n kv.2 ∧ ∃ s : Str, kv.1 = .inr s ∧ PyData.strOk s = true ∧ s.length ≤ m) : Rb B (k + 1) ((n + m + 2) * kvs.length) (.dic kvs) := by
  have key : (kvs.all fun kv => keyFit kv.1 && fitR k kv.2) = true ∧ PyData.showableKv (kvs.map fun kv => (keyD kv.1, toD k kv.2)) = true ∧ PyData.leavesShortKv B (kvs.map fun kv => (keyD kv.1, toD k kv.2)) = true ∧ PyData.bulkKv (kvs.map fun kv => (keyD kv.1, toD k kv.2)) ≤ (n + m + 2) * kvs.length := by
    induction kvs with
    | nil => exact ⟨rfl, rfl, rfl, Nat.le_refl _⟩
    | cons x xs ih =>
      obtain ⟨h1, s, hs, hs2, hs3⟩ := h x (by simp)
      obtain ⟨a, b, c, d⟩ := ih fun y hy => h y (by simp [hy])
      obtain ⟨ky, tv⟩ := x
      simp only at hs h1
      subst hs
      have e := rb_str (B := B) (k := 0) hs2
      have e2 : toD 0 (.str s) = keyD (.inr s) := rfl
      have h2 := e.shw
      have h3 := e.lvs
      have h4 := e.blk
      rw [e2] at h2 h3 h4
      refine ⟨by rw [List.all_cons, a, Bool.and_true]; show (PyData.strOk s && fitR k tv) = true; rw [hs2, h1.fit]; rfl, by simp only [List.map_cons, PyData.showableKv, h2, h1.shw, b, Bool.and_self], by simp only [List.map_cons, PyData.leavesShortKv, h3, h1.lvs, c, Bool.and_self], ?_⟩
      have := h1.blk
      simp only [List.map_cons, PyData.bulkKv, List.length_cons, Nat.mul_add, Nat.mul_one]
      omega
  obtain ⟨a, b, c, d⟩ := key
  exact ⟨a, by simpa only [toD, PyData.showable] using b, by simpa only [toD, PyData.leavesShort] using c, by simpa only [toD, PyData.bulk] using d⟩
theorem rb_up {B k n : Nat} {t : T} (h : Rb B k n t) : Rb B (k + 1) n t := by
  have e := toDR_up k t h.fit
  exact ⟨fitR_up k t h.fit, by rw [e]; exact h.shw, by rw [e]; exact h.lvs, by rw [e]; exact h.blk⟩
theorem rb_to {B k n : Nat} {t : T} (h : Rb B k n t) : ∀ {j : Nat}, k ≤ j → Rb B j n t := by
  intro j hj
  induction hj with
  | refl => exact h
  | step _ ih => exact rb_up ih
theorem reprb_ok {B n : Nat} {t : T} (h : Rb B 40 n t) (hs : isSq t = true) (hB : 8 ≤ B) (hn : (B + 2) * n + B ≤ 16000000) : ∃ s, reprT t = some s := by
  have h1 := PyData.shown_le_bulk B hB _ h.lvs
  have h2 := h.blk
  have h3 : (toD 40 t).shown.length ≤ sizeLine := by
    rw [sizeLine_eq]
    have : (B + 2) * (toD 40 t).bulk ≤ (B + 2) * n := Nat.mul_le_mul_left _ h2
    omega
  refine ⟨(toD 40 t).shown, ?_⟩
  unfold reprT
  rw [hs, h.fit, h.shw, decide_eq_true h3]
  rfl
theorem strOk_sm {w : Str} (h : ∀ c ∈ w.cps.toList, c < 128) : PyData.strOk w = true := by
  unfold PyData.strOk
  rw [← Array.all_toList, List.all_eq_true]
  intro c hc
  have := h c hc
  simp only [decide_eq_true_eq]
  omega
/-! # ratios over a common denominator -/
def FB (q : Rat) (D m : Nat) : Prop := ∃ z : Int, q * (D : Rat) = (z : Rat) ∧ z.natAbs < 2 ^ m
theorem FB.add {a b : Rat} {D m : Nat} (ha : FB a D m) (hb : FB b D m) : FB (a + b) D (m + 1) := by
  obtain ⟨x, hx, hx2⟩ := ha
  obtain ⟨y, hy, hy2⟩ := hb
  exact ⟨x + y, by rw [Rat.add_mul, hx, hy, Rat.intCast_add], natAbs_lt_add hx2 hy2⟩
theorem FB.mul {a b : Rat} {D E m n : Nat} (ha : FB a D m) (hb : FB b E n) : FB (a * b) (D * E) (m + n) := by
  obtain ⟨x, hx, hx2⟩ := ha
  obtain ⟨y, hy, hy2⟩ := hb
  refine ⟨x * y, ?_, natAbs_lt_mul hx2 hy2⟩
  rw [Rat.intCast_mul, ← hx, ← hy, Rat.natCast_mul]
  grind
theorem FB.mono {a : Rat} {D m n : Nat} (h : FB a D m) (hmn : m ≤ n) : FB a D n := by
  obtain ⟨x, hx, hx2⟩ := h
  exact ⟨x, hx, Nat.lt_of_lt_of_le hx2 (Nat.pow_le_pow_right (by decide) hmn)⟩
theorem FB.one_up {E n : Nat} (h : E < 2 ^ n) : FB 1 E n := ⟨(E : Int), by rw [Rat.one_mul]; rfl, by simpa using h⟩
theorem FB.up {a : Rat} {D E m n : Nat} (ha : FB a D m) (h : E < 2 ^ n) : FB a (D * E) (m + n) := by
  have := ha.mul (FB.one_up h)
  rwa [Rat.mul_one] at this
theorem FB.zero (D m : Nat) : FB 0 D m := ⟨0, by rw [Rat.zero_mul]; rfl, Nat.two_pow_pos _⟩
theorem mul_den (q : Rat) : q * (q.den : Rat) = (q.num : Rat) := by
  have h := Rat.num_divInt_den q
  rw [Rat.divInt_eq_div] at h
  have hd : ((q.den : Int) : Rat) ≠ 0 := by
    have := q.den_pos
    intro e
    have : (q.den : Int) = 0 := by exact_mod_cast e
    omega
  have e2 : ((q.den : Int) : Rat) = (q.den : Rat) := rfl
  rw [e2] at h hd
  grind
theorem FB.self {q : Rat} {n : Nat} (h : Rsz q n) : FB q q.den n := ⟨q.num, mul_den q, h.1⟩
theorem FB.sz {q : Rat} {D m n : Nat} (h : FB q D m) (h0 : 0 < D) (hD : D < 2 ^ n) (hm : m ≤ n) : Rsz q n := by
  obtain ⟨z, hz, hz2⟩ := h
  have hd : (D : Rat) ≠ 0 := fun e => by
    have : D = 0 := by exact_mod_cast e
    omega
  have e : q = Rat.divInt z D := by
    rw [Rat.divInt_eq_div, ← hz]
    have : ((D : Int) : Rat) = (D : Rat) := rfl
    rw [this]
    grind
  rw [e]
  exact divInt_sz (by omega) (Nat.lt_of_lt_of_le hz2 (Nat.pow_le_pow_right (by decide) hm)) (by simpa using hD)
/-- ratios of so many bits have one denominator -/
theorem FB.all {b : Nat} : ∀ {qs : List Rat}, (∀ q ∈ qs, Rsz q b) → ∃ D : Nat, 0 < D ∧ D < 2 ^ (1 + b * qs.length) ∧ ∀ q ∈ qs, FB q D (b + 1 + b * qs.length)
  | [], _ => ⟨1, by decide, by simp, by simp⟩
  | q :: qs, h => by
    obtain ⟨D, h1, h2, h3⟩ := FB.all (qs := qs) fun r hr => h r (by simp [hr])
    have hq := h q (by simp)
    refine ⟨D * q.den, Nat.mul_pos h1 q.den_pos, ?_, fun r hr => ?_⟩
    · have := nat_lt_mul h2 hq.2
      rw [List.length_cons, Nat.mul_add, Nat.mul_one]
      rwa [Nat.add_assoc] at this
    · rw [List.length_cons, Nat.mul_add, Nat.mul_one]
      rcases List.mem_cons.mp hr with e | hr
      · subst e
        have := (FB.self hq).mul (FB.one_up h2)
        rw [Rat.mul_one, Nat.mul_comm] at this
        exact this.mono (by omega)
      · exact ((h3 r hr).up hq.2).mono (by omega)
end G
namespace G
open PySem PySem.Spec PyProof.Rows L2

variable (k L : Nat)
/-! # what a cursor answers, and what is due (133) -/
def refT (n : Int) (f : Str) : T := .tup [.str "refused", .str "BadText", .int n, .str f]
def ansT (n way : Int) (w x f : Str) (m : Int) : T := if way = 3 then (if w = "" then .tup [.str "finish"] else refT n f) else saysT n way w x f m
def goB (way : Int) (w x : Str) : Bool :=
  if way = 0 then true
  else if way = 1 then decide (w = x)
  else if way = 2 then decide (w = x)
  else if way = 3 then false
  else if way = 4 then isNameW w
  else isNumW w && !decide (6 < w.length)
/-- a word, or the end -/
def We (w : Str) : Prop := Wo w ∨ w = ""
theorem cut1 (w : Str) : cutS w none (some 1) = ⟨(w.cps.toList.take 1).toArray⟩ := by
  unfold cutS
  rw [HT.sIx_none, show (some (1 : Int)) = some ((1 : Nat) : Int) from rfl, HT.sIx_nat, List.drop_zero, Nat.sub_zero]
  have : w.length = w.cps.toList.length := TL.len_tl w
  congr 2
  rcases Nat.lt_or_ge w.length 1 with h | h
  · have : w.cps.toList = [] := List.length_eq_zero_iff.mp (by omega)
    rw [this]; simp
  · rw [Nat.min_eq_left h]
theorem let_iff {c : Nat} (h : c < 128) : isLet c = (!decide ([c] < ("a" : Str).cps.toList) && !decide (("z" : Str).cps.toList < [c])) := by
  have : ∀ c : Fin 128, isLet c.val = (!decide ([c.val] < ("a" : Str).cps.toList) && !decide (("z" : Str).cps.toList < [c.val])) := by decide +kernel
  exact this ⟨c, h⟩
theorem name_cmp {w : Str} (hw : ∀ c ∈ w.cps.toList, c < 128 ∧ c ≠ 10) : isNameW w = (!decide (w.cps.toList.take 1 < ("a" : Str).cps.toList) && !decide (("z" : Str).cps.toList < w.cps.toList.take 1)) := by
  unfold isNameW
  cases h : w.cps.toList with
  | nil => decide +kernel
  | cons c r =>
    have := let_iff (hw c (by rw [h]; simp)).1
    rw [Bool.eq_iff_iff] at this ⊢
    simp only [Bool.and_eq_true, Bool.not_eq_true', decide_eq_false_iff_not] at this ⊢
    exact this
def digS : List Str := digs.map fun c => (⟨#[c]⟩ : Str)
theorem digS_ok : ∀ v ∈ digS, PyData.strOk v = true := by
  have : (digS.all PyData.strOk) = true := by decide +kernel
  simpa using this
theorem dig_in {w : Str} (hw : ∀ c ∈ w.cps.toList, c < 128 ∧ c ≠ 10) : inR (.str ⟨(w.cps.toList.take 1).toArray⟩) (.lst (digS.map T.str)) = some (isNumW w) := by
  rw [in_strs (strOk_ch fun c hc => hw c (List.mem_of_mem_take hc)) digS_ok]
  congr 1
  unfold isNumW
  cases h : w.cps.toList with
  | nil => decide +kernel
  | cons c r =>
    have := (hw c (by rw [h]; simp)).1
    have h2 : ∀ c : Fin 128, decide ((⟨#[c.val]⟩ : Str) ∈ digS) = isDig c.val := by decide +kernel
    have h3 := h2 ⟨c, this⟩
    rw [Bool.eq_iff_iff] at h3 ⊢
    simp only [decide_eq_true_eq] at h3 ⊢
    exact h3
theorem We.ch {w : Str} (h : We w) : ∀ c ∈ w.cps.toList, c < 128 ∧ c ≠ 10 := by
  rcases h with h | rfl
  · exact wd_ch h.wd
  · intro c hc
    rw [show ("" : Str).cps.toList = [] from by decide +kernel] at hc
    cases hc
theorem We.len {w : Str} (h : We w) : w.length ≤ 100 := by
  rcases h with h | rfl
  · exact h.wd.1
  · decide +kernel
theorem due_spec (way : Int) (hway : 0 ≤ way ∧ way < 6) {w : Str} (hw : We w) (x f : Str) (n : Int) {m : Int} (hm : isNumW w = true → w.length ≤ 6 → intText? w = some m) :
    callF Pr G0 D0 L (k + 1) 133 [.val (.int way), .val (.str w), .val (.str x), .val (refT n f)] = .ok (.val (.tup [ansT n way w x f m, .bl (goB way w x)])) [.val (.int way), .val (.str w), .val (.str x), .val (refT n f)] := by
  rw [callF_succ (f := ⟨4, 4, b_law_cursor_due⟩) rfl rfl]
  have e1 := eqR_strs x w
  have e2 : decide (x = w) = decide (w = x) := decide_eq_decide.mpr ⟨Eq.symm, Eq.symm⟩
  rw [e2] at e1
  have c1 := cut1 w
  have hn := name_cmp hw.ch
  have hd := dig_in hw.ch
  have hz : w.length ≤ sizeLine := le_size (by have := hw.len; omega)
  have hz6 : w.length ≤ 640 := by have := hw.len; omega
  have hw2 : way = 0 ∨ way = 1 ∨ way = 2 ∨ way = 3 ∨ way = 4 ∨ way = 5 := by omega
  have hlist : biR .list [.str "0123456789"] = some (.lst (digS.map T.str)) := by
    unfold digS
    rw [List.map_map]
    rfl
  generalize hR : refT n f = R0
  unfold ansT saysT
  rw [show (T.tup [.str "refused", .str "BadText", .int n, .str f]) = R0 from hR]
  unfold goB
  rcases hw2 with rfl | rfl | rfl | rfl | rfl | rfl
  · simp [b_law_cursor_due]
  · simp [b_law_cursor_due, e1]
  · by_cases h : w = x
    · simp [h] at e1
      simp [b_law_cursor_due, e1, h]
    · simp [h] at e1
      simp [b_law_cursor_due, e1, h]
  · have e3 := eqR_strs w ""
    by_cases h : w = ""
    · simp [h] at e3
      simp [b_law_cursor_due, e3, h]
    · simp [h] at e3
      simp [b_law_cursor_due, e3, h, hR]
  · generalize hv : (⟨(w.cps.toList.take 1).toArray⟩ : Str) = v at c1
    have ev : v.cps.toList = w.cps.toList.take 1 := by rw [← hv]
    rw [← ev] at hn
    have hB : ∀ a b : Str, decide (a.cps < b.cps) = decide (a.cps.toList < b.cps.toList) := fun a b => by
      by_cases q : a.cps.toList < b.cps.toList
      · rw [decide_eq_true q]; exact decide_eq_true q
      · rw [decide_eq_false q]; exact decide_eq_false q
    have h1 := hB v "a"
    have h2 := hB "z" v
    generalize decide (v.cps.toList < ("a" : Str).cps.toList) = b1 at hn h1
    generalize decide (("z" : Str).cps.toList < v.cps.toList) = b2 at hn h2
    rw [hn]
    cases b1 <;> cases b2 <;> simp [b_law_cursor_due, hz, c1, h1, h2, ordR]
  · cases h : isNumW w with
    | false =>
      rw [h] at hd
      simp [b_law_cursor_due, hz, c1, hlist, hd]
    | true =>
      rw [h] at hd
      by_cases h6 : 6 < w.length
      · have h6' : (6 : Int) < w.length := by omega
        simp [b_law_cursor_due, hz, c1, hlist, hd, h6, h6']
      · have h6' : ¬ (6 : Int) < w.length := by omega
        have hv := hm h (by omega)
        simp [b_law_cursor_due, hz, c1, hlist, hd, h6, h6', hz6, hv]
end G
namespace G
open PySem PySem.Spec PyProof.Rows L2

variable (k L : Nat)
/-! # the answers are told by repr -/
theorem rb_bl {B k : Nat} {b : Bool} : Rb B k 0 (.bl b) := by
  have e : toD k (.bl b) = .bool b := by cases k <;> rfl
  refine ⟨by cases k <;> rfl, by rw [e]; rfl, by rw [e]; rfl, by rw [e]; exact Nat.le_refl _⟩
theorem rb_one {B k n : Nat} {x : T} (h : Rb B k n x) : Rb B (k + 1) (n + 1) (.tup [x]) := (rb_cons h rb_nil.1).mono (by omega)
theorem rb_st {k : Nat} {s : Str} (h : PyData.strOk s = true) (hl : s.length ≤ 100) : Rb 100 k 100 (.str s) := (rb_str h).mono hl
theorem rb_in {k : Nat} {i : Int} (h : i.natAbs < 2 ^ 30) : Rb 100 k 100 (.int i) := (rb_int (b := 30) (by decide) h (by decide) (by decide)).mono (by omega)
theorem digs_val : ∀ (cs : List Nat) (a : Nat), NumText.AllDigits cs → cs.foldl (fun acc c => acc * 10 + (c - 48)) a < (a + 1) * 10 ^ cs.length
  | [], a, _ => by simp
  | c :: cs, a, h => by
    have h1 := h.head
    have := digs_val cs (a * 10 + (c - 48)) h.tail
    rw [List.foldl_cons, List.length_cons, Nat.pow_succ]
    refine Nat.lt_of_lt_of_le this ?_
    have h2 : a * 10 + (c - 48) + 1 ≤ (a + 1) * 10 := by omega
    calc (a * 10 + (c - 48) + 1) * 10 ^ cs.length ≤ (a + 1) * 10 * 10 ^ cs.length := Nat.mul_le_mul_right _ h2
      _ = (a + 1) * (10 ^ cs.length * 10) := by rw [Nat.mul_assoc, Nat.mul_comm 10]
theorem dig_all {w : Str} (h : ∀ c ∈ w.cps.toList, isDig c = true) : NumText.AllDigits w.cps.toList := by
  intro c hc
  have h1 : (digs.all fun c => decide (48 ≤ c) && decide (c ≤ 57)) = true := by decide +kernel
  rw [List.all_eq_true] at h1
  have := h1 c (by simpa [isDig] using h c hc)
  simpa using this
def numV (w : Str) : Int := ((NumText.digitsVal w.cps.toList : Nat) : Int)
theorem num_val {w : Str} (hw : We w) (h : isNumW w = true) : intText? w = some (numV w) ∧ (w.length ≤ 6 → (numV w).natAbs < 2 ^ 30) := by
  unfold isNumW at h
  cases hl : w.cps.toList with
  | nil => rw [hl] at h; simp at h
  | cons c r =>
    rw [hl] at h
    have hc : isDig c = true := by simpa using h
    rcases hw with hw | hw
    · have key : ∀ c ∈ w.cps.toList, isDig c = true := by
        rcases hw with hw | hw | hw
        · obtain ⟨d, r', h1, h2, _⟩ := hw
          rw [hl] at h1
          cases h1
          rw [(let_no h2).2.2.1] at hc
          cases hc
        · exact hw.2.1
        · exact absurd hw (not_sign hl (dig_no hc).2.2.2.1)
      refine ⟨intText_digits (dig_all key) (by rw [hl]; simp) (by have := (Wo.wd hw).1; omega), fun h6 => ?_⟩
      have h7 := digs_val w.cps.toList 0 (dig_all key)
      have h8 : w.length = w.cps.toList.length := TL.len_tl w
      have h9 : (10 : Nat) ^ w.cps.toList.length ≤ 10 ^ 6 := Nat.pow_le_pow_right (by decide) (by omega)
      have h10 : (numV w).natAbs = w.cps.toList.foldl (fun acc c => acc * 10 + (c - 48)) 0 := by
        unfold numV NumText.digitsVal
        simp
      rw [h10]
      omega
    · subst hw
      rw [show ("" : Str).cps.toList = [] from by decide +kernel] at hl
      cases hl
theorem ref_repr {n : Int} (hn : 0 ≤ n ∧ n ≤ 1000) {f : Str} (hf : f.length ≤ 100) (hfo : PyData.strOk f = true) : ∃ s, reprT (refT n f) = some s := by
  refine reprb_ok (B := 100) (n := 1000) ((rb_to (k := 1) (rb_cons (rb_st (by decide +kernel) (by decide +kernel)) (rb_cons (rb_st (by decide +kernel) (by decide +kernel)) (rb_cons (rb_in (by omega)) (rb_one (rb_st hfo hf))))) (by omega)).mono (by omega)) rfl (by decide) (by decide)
theorem ans_repr {n : Int} (hn : 0 ≤ n ∧ n ≤ 1000) (way : Int) {w : Str} (hw : We w) (x : Str) {f : Str} (hf : f.length ≤ 100) (hfo : PyData.strOk f = true) : ∃ s, reprT (ansT n way w x f (numV w)) = some s := by
  have hr := ref_repr hn hf hfo
  have hwo := strOk_ch hw.ch
  have one : ∀ {s : Str}, PyData.strOk s = true → s.length ≤ 100 → ∃ z, reprT (.tup [.str s]) = some z := fun h1 h2 =>
    reprb_ok (B := 100) (n := 1000) ((rb_to (k := 1) (rb_one (rb_st h1 h2)) (by omega)).mono (by omega)) rfl (by decide) (by decide)
  have two : ∀ {s : Str} {t : T}, PyData.strOk s = true → s.length ≤ 100 → Rb 100 0 100 t → ∃ z, reprT (.tup [.str s, t]) = some z := fun h1 h2 h3 =>
    reprb_ok (B := 100) (n := 1000) ((rb_to (k := 1) (rb_cons (rb_st h1 h2) (rb_one h3)) (by omega)).mono (by omega)) rfl (by decide) (by decide)
  unfold ansT saysT
  unfold refT at hr ⊢
  split
  · split
    · exact one (by decide +kernel) (by decide +kernel)
    · exact hr
  · split
    · exact two (by decide +kernel) (by decide +kernel) (rb_st hwo hw.len)
    · split
      · exact two (by decide +kernel) (by decide +kernel) (rb_bl.mono (by omega))
      · split
        · split
          · exact one (by decide +kernel) (by decide +kernel)
          · exact hr
        · split
          · split
            · exact two (by decide +kernel) (by decide +kernel) (rb_st hwo hw.len)
            · exact hr
          · split
            · rename_i h5
              split
              · exact reprb_ok (B := 100) (n := 1000) ((rb_to (k := 1) (rb_cons (rb_st (by decide +kernel) (by decide +kernel)) (rb_cons (rb_st (by decide +kernel) (by decide +kernel)) (rb_cons (rb_st (by decide +kernel) (by decide +kernel)) (rb_one (rb_in (by decide)))))) (by omega)).mono (by omega)) rfl (by decide) (by decide)
              · rename_i h6
                exact two (by decide +kernel) (by decide +kernel) (rb_in ((num_val hw h5).2 (by omega)))
            · exact hr
/-! # the cursor's answer, in any way -/
theorem word_we {ws : List Str} (hw : ∀ w ∈ ws, Wo w) (p : Nat) : We (wordAt ws p) := by
  unfold wordAt
  rw [List.getD_eq_getElem?_getD]
  cases h : ws[p]? with
  | none => exact .inr rfl
  | some w => exact .inl (hw w (List.mem_of_getElem? h))
theorem Wo.ne {w : Str} (h : Wo w) : w ≠ "" := by
  intro e
  subst e
  have e0 : ("" : Str).cps.toList = [] := by decide +kernel
  rcases h with h | h | h
  · obtain ⟨c, r, h1, _⟩ := h
    rw [e0] at h1; cases h1
  · exact h.1 e0
  · obtain ⟨c, r, h1, _⟩ := sign_head h
    rw [e0] at h1; cases h1
theorem word_end {ws : List Str} (hw : ∀ w ∈ ws, Wo w) (p : Nat) : wordAt ws p = "" ↔ ¬ p < ws.length := by
  unfold wordAt
  rw [List.getD_eq_getElem?_getD]
  constructor
  · intro h hp
    rw [List.getElem?_eq_getElem hp] at h
    exact (hw _ (List.getElem_mem hp)).ne h
  · intro hp
    rw [List.getElem?_eq_none (by omega)]
    rfl
theorem says_all {ws : List Str} (hws : ∀ w ∈ ws, Wo w) (n : Int) (hn : 0 ≤ n ∧ n ≤ 1000) (p : Nat) (hw : ws.length ≤ 1000) (way : Int) (x f : Str) (hf : f.length ≤ 100) (hfo : PyData.strOk f = true) :
    callF Pr G0 D0 L (k + 4) 143 [.own (curO ws n p), .val (.int way), .val (.str x), .val (.str f)] = .ok (.val (ansT n way (wordAt ws p) x f (numV (wordAt ws p)))) [.own (curO ws n (if goB way (wordAt ws p) x = true then p + 1 else p)), .val (.int way), .val (.str x), .val (.str f)] := by
  have hwe := word_we hws p
  by_cases h3 : way = 3
  · subst h3
    have := says_fin (k + 1) L ws n hn p hw x f hf hfo
    rw [this]
    have he := word_end hws p
    unfold ansT goB refT
    by_cases h : p < ws.length
    · have : ¬ wordAt ws p = "" := fun q => (he.mp q) h
      simp [h, this]
    · have : wordAt ws p = "" := he.mpr h
      simp [h, this]
  · have := says_spec k L ws n hn p hw (by have := hwe.len; omega) way h3 x f hf hfo (m := numV (wordAt ws p)) (fun h _ => (num_val hwe h).1)
    rw [this]
    have e1 : ansT n way (wordAt ws p) x f (numV (wordAt ws p)) = saysT n way (wordAt ws p) x f (numV (wordAt ws p)) := by
      unfold ansT; rw [if_neg h3]
    have e2 : saysP p way (wordAt ws p) x = if goB way (wordAt ws p) x = true then p + 1 else p := by
      unfold saysP goB
      rw [if_neg h3]
      split
      · rfl
      · split
        · by_cases q : wordAt ws p = x <;> simp [q]
        · split
          · by_cases q : wordAt ws p = x <;> simp [q]
          · split
            · rfl
            · by_cases q : isNumW (wordAt ws p) = true
              · by_cases q6 : 6 < (wordAt ws p).length <;> simp [q, q6]
              · simp [q]
    rw [e1, e2]
end G
namespace G
open PySem PySem.Spec PyProof.Rows L2

variable (k L : Nat)
/-! # law_cursor_goes (144) -/
theorem init_spec (ws : List Str) (n : Int) : callF Pr G0 D0 L (k + 1) 146 [.own (.obj "Cursor" []), .val (.tup (ws.map T.str)), .val (.int n)] = .ok (.val .non) [.own (curO ws n 0), .val (.tup (ws.map T.str)), .val (.int n)] := by
  rw [callF_succ (f := ⟨3, 3, b_Cursor___init__⟩) rfl rfl]
  have h1 : ¬ ((Sum.inr ("words" : Str) : Key) = Sum.inr ("line" : Str)) := by decide +kernel
  have h2 : ¬ ((Sum.inr ("words" : Str) : Key) = Sum.inr ("place" : Str)) := by decide +kernel
  have h3 : ¬ ((Sum.inr ("line" : Str) : Key) = Sum.inr ("place" : Str)) := by decide +kernel
  simp [b_Cursor___init__, fsetR, putO, h1, h2, h3, curO]
theorem m_peek (ws : List Str) (n : Int) (p : Nat) : methOf "peek" [("Cursor", 147)] (some (frz (curO ws n p))) = some 147 := by
  have h := v_no "peek" (by decide +kernel) ws n p
  simp [methOf, curO, h]
theorem m_take (ws : List Str) (n : Int) (p : Nat) : methOf "take" [("Cursor", 148)] (some (frz (curO ws n p))) = some 148 := by
  have h := v_no "take" (by decide +kernel) ws n p
  simp [methOf, curO, h]
def gEnv (j : Jar) (ws : List Str) (n : Int) (p : Nat) (s a b c d e f : Option Iv) : Env := [some (.own (jarO j)), some (.own (.lst (ws.map T.str))), some (.val (.int n)), some (.own (curO ws n p)), some (.val (.int (p : Int))), s, a, b, c, d, e, f]
def tailG : ISs := ISs.cons (IS.asgT [10, 11] (IE.call 133 (IEs.cons (IE.var 9) (IEs.cons (IE.var 6) (IEs.cons (IE.var 7) (IEs.cons (IE.tup (IEs.cons (IE.str "refused") (IEs.cons (IE.str "BadText") (IEs.cons (IE.mov 2) (IEs.cons (IE.mov 8) IEs.nil))))) IEs.nil)))))) (ISs.cons (IS.ite (IB.or (IB.val (IE.cmp CmpOp.NotEq (IE.meth "peek" [("Cursor", 147)] (IE.var 3) IEs.nil) (IE.var 6))) (IB.val (IE.cmp CmpOp.NotEq (IE.bi BI.repr (IEs.cons (IE.call 143 (IEs.cons (IE.var 3) (IEs.cons (IE.var 9) (IEs.cons (IE.var 7) (IEs.cons (IE.var 8) IEs.nil))))) IEs.nil)) (IE.bi BI.repr (IEs.cons (IE.var 10) IEs.nil))))) (ISs.cons (IS.ret (IE.bl false)) ISs.nil) ISs.nil) (ISs.cons (IS.ite (IB.val (IE.var 11)) (ISs.cons (IS.asg 4 (IE.bin Operator.Add (IE.var 4) (IE.int 1))) ISs.nil) ISs.nil) ISs.nil))
theorem tail_spec {fx : Nat → Bool} (f4 : fx 4 = false) (f10 : fx 10 = false) (f11 : fx 11 = false) (j : Jar) {ws : List Str} (hws : ∀ w ∈ ws, Wo w) (hw : ws.length ≤ 1000) (n : Int) (hn : 0 ≤ n ∧ n ≤ 1000) (p : Nat) (s : Option Iv) (x f : Str) (hf : f.length ≤ 100) (hfo : PyData.strOk f = true) (way : Int) (hway : 0 ≤ way ∧ way < 6) (e g : Option Iv) :
    ∃ p' e' g', xcs (callF Pr G0 D0 L (k + 4)) G0 D0 fx L tailG (gEnv j ws n p s (some (.val (.str (wordAt ws p)))) (some (.val (.str x))) (some (.val (.str f))) (some (.val (.int way))) e g) = .ok .nxt (gEnv j ws n p' s (some (.val (.str (wordAt ws p)))) (some (.val (.str x))) (some (.val (.str f))) (some (.val (.int way))) e' g') := by
  have hwe := word_we hws p
  have h1 := due_spec (k + 3) L way hway hwe x f n (m := numV (wordAt ws p)) (fun h _ => (num_val hwe h).1)
  have h2 := peek_spec (k + 3) L ws n p hw
  have h3 := says_all k L hws n hn p hw way x f hf hfo
  obtain ⟨r, hr⟩ := ans_repr hn way hwe x hf hfo
  have hm := m_peek ws n p
  have e1 : ∀ z, eqR (.str z) (.str z) = some true := fun z => by rw [eqR_strs]; simp
  unfold refT at h1
  generalize ansT n way (wordAt ws p) x f (numV (wordAt ws p)) = A at *
  generalize wordAt ws p = w at *
  refine ⟨if goB way w x = true then p + 1 else p, some (.val A), some (.val (.bl (goB way w x))), ?_⟩
  unfold tailG
  cases hg : goB way w x with
  | true =>
    rw [hg] at h1 h3
    simp only [if_true] at h3 ⊢
    refine xcs_step (e1 := gEnv j ws n p s (some (.val (.str w))) (some (.val (.str x))) (some (.val (.str f))) (some (.val (.int way))) (some (.val A)) (some (.val (.bl true)))) (by simp [gEnv, h1, f10, f11]) ?_
    refine xcs_step (e1 := [some (.own (jarO j)), some (.own (.lst (ws.map T.str))), some (.val (.int n)), some (.own (curO ws n (p + 1))), some (.val (.int (p : Int))), s, some (.val (.str w)), some (.val (.str x)), some (.val (.str f)), some (.val (.int way)), some (.val A), some (.val (.bl true))]) (by simp [gEnv, hm, h2, h3, e1, hr]) ?_
    simp [gEnv, f4]
  | false =>
    rw [hg] at h1 h3
    simp only [Bool.false_eq_true, if_false] at h3 ⊢
    refine xcs_step (e1 := gEnv j ws n p s (some (.val (.str w))) (some (.val (.str x))) (some (.val (.str f))) (some (.val (.int way))) (some (.val A)) (some (.val (.bl false)))) (by simp [gEnv, h1, f10, f11]) ?_
    refine xcs_step (e1 := gEnv j ws n p s (some (.val (.str w))) (some (.val (.str x))) (some (.val (.str f))) (some (.val (.int way))) (some (.val A)) (some (.val (.bl false)))) (by simp [gEnv, hm, h2, h3, e1, hr]) ?_
    simp [gEnv]
theorem fault_pick (j : Jar) : ∃ (j' : Jar) (s : Str), s.length ≤ 100 ∧ PyData.strOk s = true ∧ callF Pr G0 D0 L (k + 3) 17 [.own (jarO j), .own (.lst [.str "form", .str "statement", .str "head", .str "line"])] = .ok (.val (.str s)) [.own (jarO j'), .own (.lst [.str "form", .str "statement", .str "head", .str "line"])] := by
  obtain ⟨j', s, hs, h⟩ := picked_str k L j (pool := ["form", "statement", "head", "line"]) (by simp) (by simp) _ (.inl rfl)
  have h1 : (([("form" : Str), "statement", "head", "line"]).all fun s => decide (s.length ≤ 100) && PyData.strOk s) = true := by decide +kernel
  rw [List.all_eq_true] at h1
  have h2 := h1 s hs
  simp only [Bool.and_eq_true, decide_eq_true_eq] at h2
  exact ⟨j', s, h2.1, h2.2, h⟩
theorem step_spec {fx : Nat → Bool} (f4 : fx 4 = false) (f6 : fx 6 = false) (f7 : fx 7 = false) (f8 : fx 8 = false) (f9 : fx 9 = false) (f10 : fx 10 = false) (f11 : fx 11 = false) (j : Jar) {ws : List Str} (hws : ∀ w ∈ ws, Wo w) (hw : ws.length ≤ 900) (n : Int) (hn : 0 ≤ n ∧ n ≤ 1000) (p : Nat) (s a b c d e g : Option Iv) :
    ∃ j' p' a' b' c' d' e' g', xcs (callF Pr G0 D0 L (k + 4)) G0 D0 fx L s_law_cursor_goes_144_1 (gEnv j ws n p s a b c d e g) = .ok .nxt (gEnv j' ws n p' s a' b' c' d' e' g') := by
  have hz : ws.length ≤ sizeLine := le_size (by omega)
  have hz2 : ws.length + 2 ≤ sizeLine := le_size (by omega)
  have q1 : xc (callF Pr G0 D0 L (k + 4)) G0 D0 fx L (IS.asg 6 (IE.ifx (IB.val (IE.cmp CmpOp.Lt (IE.var 4) (IE.bi BI.len (IEs.cons (IE.var 1) IEs.nil)))) (IE.ix (IE.var 1) (IE.var 4)) (IE.str ""))) (gEnv j ws n p s a b c d e g) = .ok .nxt (gEnv j ws n p s (some (.val (.str (wordAt ws p)))) b c d e g) := by
    by_cases h : p < ws.length
    · have hat := atI_str (List.getElem?_eq_getElem h)
      have hwd : wordAt ws p = ws[p] := by
        unfold wordAt
        rw [List.getD_eq_getElem?_getD, List.getElem?_eq_getElem h]; rfl
      rw [hwd]
      simp [gEnv, h, hz, hat, f6, -s_atI_1]
    · have hwd : wordAt ws p = "" := (word_end hws p).mpr h
      rw [hwd]
      simp [gEnv, h, hz, f6]
  have e1 := fun z => eqR_strs z ""
  have hE : wordAt ws p = wordAt ws p := rfl
  -- the way behind the fault
  have fin : ∀ (j2 : Jar) (x : Str), ∃ j' p' b' c' d' e' g', xcs (callF Pr G0 D0 L (k + 4)) G0 D0 fx L (ISs.cons (IS.asg 8 (IE.call 17 (IEs.cons (IE.var 0) (IEs.cons (IE.lst (IEs.cons (IE.str "form") (IEs.cons (IE.str "statement") (IEs.cons (IE.str "head") (IEs.cons (IE.str "line") IEs.nil))))) IEs.nil)))) (ISs.cons (IS.asg 9 (IE.ifx (IB.val (IE.cmp CmpOp.NotEq (IE.var 6) (IE.str ""))) (IE.call 15 (IEs.cons (IE.var 0) (IEs.cons (IE.int 6) IEs.nil))) (IE.bin Operator.Add (IE.int 1) (IE.call 15 (IEs.cons (IE.var 0) (IEs.cons (IE.int 5) IEs.nil)))))) tailG)) (gEnv j2 ws n p s (some (.val (.str (wordAt ws p)))) (some (.val (.str x))) c d e g) = .ok .nxt (gEnv j' ws n p' s (some (.val (.str (wordAt ws p)))) b' c' d' e' g') := by
    intro j2 x
    obtain ⟨j3, f, hf, hfo, h3⟩ := fault_pick (k + 1) L j2
    by_cases h0 : wordAt ws p = ""
    · obtain ⟨d5, j4, hd5, h4⟩ := drawn (k + 2) L j3 5 (by decide)
      obtain ⟨p', e', g', h5⟩ := tail_spec k L f4 f10 f11 j4 hws (by omega) n hn p s x f hf hfo (1 + (d5 : Int)) (by omega) e g
      refine ⟨j4, p', some (.val (.str x)), some (.val (.str f)), some (.val (.int (1 + (d5 : Int)))), e', g', ?_⟩
      refine xcs_step (e1 := gEnv j3 ws n p s (some (.val (.str (wordAt ws p)))) (some (.val (.str x))) (some (.val (.str f))) d e g) (by simp [gEnv, h3, f8]) ?_
      refine xcs_step (e1 := gEnv j4 ws n p s (some (.val (.str (wordAt ws p)))) (some (.val (.str x))) (some (.val (.str f))) (some (.val (.int (1 + (d5 : Int))))) e g) (by simp [gEnv, h4, f9, e1, h0]) ?_
      exact h5
    · obtain ⟨d5, j4, hd5, h4⟩ := drawn (k + 2) L j3 6 (by decide)
      obtain ⟨p', e', g', h5⟩ := tail_spec k L f4 f10 f11 j4 hws (by omega) n hn p s x f hf hfo (d5 : Int) (by omega) e g
      refine ⟨j4, p', some (.val (.str x)), some (.val (.str f)), some (.val (.int (d5 : Int))), e', g', ?_⟩
      refine xcs_step (e1 := gEnv j3 ws n p s (some (.val (.str (wordAt ws p)))) (some (.val (.str x))) (some (.val (.str f))) d e g) (by simp [gEnv, h3, f8]) ?_
      refine xcs_step (e1 := gEnv j4 ws n p s (some (.val (.str (wordAt ws p)))) (some (.val (.str x))) (some (.val (.str f))) (some (.val (.int (d5 : Int)))) e g) (by simp [gEnv, h4, f9, e1, h0]) ?_
      exact h5
  have pool : ∀ j : Jar, ∃ (j' : Jar) (x : Str), callF Pr G0 D0 L (k + 4) 17 [.own (jarO j), .own (.lst (ws.map T.str ++ [.str ":=", .str "x"]))] = .ok (.val (.str x)) [.own (jarO j'), .own (.lst (ws.map T.str ++ [.str ":=", .str "x"]))] := by
    intro j
    obtain ⟨j', x, _, h⟩ := picked_str (k + 1) L j (pool := ws ++ ([":=", "x"] : List Str)) (by simp) (by simp; omega) _ (.inl rfl)
    rw [List.map_append] at h
    exact ⟨j', x, h⟩
  unfold s_law_cursor_goes_144_1
  by_cases h0 : wordAt ws p = ""
  · obtain ⟨j2, x, h2⟩ := pool j
    obtain ⟨j', p', b', c', d', e', g', hfin⟩ := fin j2 x
    refine ⟨j', p', some (.val (.str (wordAt ws p))), b', c', d', e', g', ?_⟩
    refine xcs_step q1 ?_
    refine xcs_step (e1 := gEnv j2 ws n p s (some (.val (.str (wordAt ws p)))) (some (.val (.str x))) c d e g) (by simp [gEnv, h2, f7, e1, h0, hz2]) ?_
    exact hfin
  · obtain ⟨d2, j2, hd2, h2⟩ := drawn (k + 2) L j 2 (by decide)
    by_cases hd0 : d2 = 0
    · obtain ⟨j', p', b', c', d', e', g', hfin⟩ := fin j2 (wordAt ws p)
      refine ⟨j', p', some (.val (.str (wordAt ws p))), b', c', d', e', g', ?_⟩
      refine xcs_step q1 ?_
      refine xcs_step (e1 := gEnv j2 ws n p s (some (.val (.str (wordAt ws p)))) (some (.val (.str (wordAt ws p)))) c d e g) (by simp [gEnv, h2, f7, e1, h0, hd0, hz2]) ?_
      exact hfin
    · obtain ⟨j3, x, h3⟩ := pool j2
      obtain ⟨j', p', b', c', d', e', g', hfin⟩ := fin j3 x
      refine ⟨j', p', some (.val (.str (wordAt ws p))), b', c', d', e', g', ?_⟩
      refine xcs_step q1 ?_
      refine xcs_step (e1 := gEnv j3 ws n p s (some (.val (.str (wordAt ws p)))) (some (.val (.str x))) c d e g) (by simp [gEnv, h2, h3, f7, e1, h0, hd0, hz2]) ?_
      exact hfin
theorem rest_loop {fx : Nat → Bool} (f6 : fx 6 = false) (j : Jar) {ws : List Str} (hw : ws.length ≤ 900) (n : Int) (P : Iv) (s b c d e g : Option Iv) : ∀ (m p : Nat) (a : Option Iv), ws.length - p ≤ m → ∃ p' a', ¬ p' < ws.length ∧
    forL fx (.name 6) (xcs (callF Pr G0 D0 L (k + 4)) G0 D0 fx L s_law_cursor_goes_144_2) ((ws.drop p).map T.str) [some (.own (jarO j)), some (.own (.lst (ws.map T.str))), some (.val (.int n)), some (.own (curO ws n p)), some P, s, a, b, c, d, e, g] = .ok .nxt [some (.own (jarO j)), some (.own (.lst (ws.map T.str))), some (.val (.int n)), some (.own (curO ws n p')), some P, s, a', b, c, d, e, g]
  | m, p, a, hm => by
    by_cases hp : p < ws.length
    · obtain ⟨m, rfl⟩ : ∃ q, m = q + 1 := ⟨m - 1, by omega⟩
      have hwd : wordAt ws p = ws[p] := by
        unfold wordAt
        rw [List.getD_eq_getElem?_getD, List.getElem?_eq_getElem hp]; rfl
      obtain ⟨p', a', h1, h2⟩ := rest_loop f6 j hw n P s b c d e g m (p + 1) (some (.val (.str ws[p]))) (by omega)
      refine ⟨p', a', h1, ?_⟩
      rw [List.drop_eq_getElem_cons hp, List.map_cons]
      have t1 := peek_spec (k + 3) L ws n p (by omega)
      have t2 := take_spec (k + 2) L ws n p (by omega)
      have hm1 := m_peek ws n p
      have hm2 := m_take ws n p
      rw [hwd] at t1 t2
      have e1 : ∀ z, eqR (.str z) (.str z) = some true := fun z => by rw [eqR_strs]; simp
      generalize ws[p] = w at *
      have hb : bindT fx (.name 6) (T.str w) [some (.own (jarO j)), some (.own (.lst (ws.map T.str))), some (.val (.int n)), some (.own (curO ws n p)), some P, s, a, b, c, d, e, g] = some [some (.own (jarO j)), some (.own (.lst (ws.map T.str))), some (.val (.int n)), some (.own (curO ws n p)), some P, s, some (.val (.str w)), b, c, d, e, g] := by simp [f6]
      have st : xcs (callF Pr G0 D0 L (k + 4)) G0 D0 fx L s_law_cursor_goes_144_2 [some (.own (jarO j)), some (.own (.lst (ws.map T.str))), some (.val (.int n)), some (.own (curO ws n p)), some P, s, some (.val (.str w)), b, c, d, e, g] = .ok .nxt [some (.own (jarO j)), some (.own (.lst (ws.map T.str))), some (.val (.int n)), some (.own (curO ws n (p + 1))), some P, s, some (.val (.str w)), b, c, d, e, g] := by
        simp [s_law_cursor_goes_144_2, hm1, hm2, t1, t2, e1]
      simp only [forL, hb, st, s_bind_ok]
      exact h2
    · rw [List.drop_of_length_le (by omega)]
      exact ⟨p, a, hp, rfl⟩
theorem cut_from (xs : List T) (c : Nat) : cutT xs (some (c : Int)) none = xs.drop c := by
  unfold cutT
  rw [HT.sIx_none, HT.sIx_nat]
  rcases Nat.le_total c xs.length with h | h
  · rw [Nat.min_eq_left h, List.take_of_length_le (by simp)]
  · rw [Nat.min_eq_right h, List.drop_of_length_le (Nat.le_refl _), List.drop_of_length_le h]; simp
theorem cut_to (xs : List T) (c : Nat) : cutT xs none (some (c : Int)) = xs.take c := by
  unfold cutT
  rw [HT.sIx_none, HT.sIx_nat, List.drop_zero, Nat.sub_zero]
  rcases Nat.le_total c xs.length with h | h
  · rw [Nat.min_eq_left h]
  · rw [Nat.min_eq_right h, List.take_of_length_le (Nat.le_refl _), List.take_of_length_le h]
theorem goes_spec (j : Jar) {ws : List Str} (hws : ∀ w ∈ ws, Wo w) (hw : ws.length ≤ 200) (n : Int) (hn : 0 ≤ n ∧ n ≤ 1000) : ∃ j' : Jar, callF Pr G0 D0 L (k + 5) 144 [.own (jarO j), .own (.lst (ws.map T.str)), .val (.int n)] = .ok (.val (.bl true)) [.own (jarO j'), .own (.lst (ws.map T.str)), .val (.int n)] := by
  rw [callF_succ (f := ⟨3, 12, b_law_cursor_goes_144⟩) rfl rfl]
  generalize hfx : fxOf [.own (jarO j), .own (.lst (ws.map T.str)), .val (.int n)] = fx
  have gg : fx 3 = false ∧ fx 4 = false ∧ fx 5 = false ∧ fx 6 = false ∧ fx 7 = false ∧ fx 8 = false ∧ fx 9 = false ∧ fx 10 = false ∧ fx 11 = false := by subst hfx; exact ⟨rfl, rfl, rfl, rfl, rfl, rfl, rfl, rfl, rfl⟩
  obtain ⟨f3, f4, f5, f6, f7, f8, f9, f10, f11⟩ := gg
  have hz : ws.length ≤ sizeLine := le_size (by omega)
  obtain ⟨e', hl', j1, p1, s1, a1, b1, c1, d1, e1, g1, he'⟩ := forL_ix (fx := fx) (tg := .name 5) (body := xcs (callF Pr G0 D0 L (k + 4)) G0 D0 fx L s_law_cursor_goes_144_1) (N := ws.length + 4) (e := gEnv j ws n 0 none none none none none none none)
    (fun i e => ∃ j p s a b c d e' g, e = gEnv j ws n p s a b c d e' g) ⟨j, 0, _, _, _, _, _, _, _, rfl⟩ (fun i e hi ⟨j, p, s, a, b, c, d, e', g, he⟩ => by
      subst he
      obtain ⟨j', p', a', b', c', d', e'', g', h⟩ := step_spec k L f4 f6 f7 f8 f9 f10 f11 j hws (by omega) n hn p (some (.val (.int (i : Int)))) a b c d e' g
      exact ⟨_, _, by simp [gEnv, f5], h, j', p', _, a', b', c', d', e'', g', rfl⟩)
  subst he'
  obtain ⟨p2, a2, hp2, hl2⟩ := rest_loop k L f6 j1 (by omega) n (.val (.int (p1 : Int))) s1 b1 c1 d1 e1 g1 ws.length p1 a1 (by omega) (ws := ws)
  refine ⟨j1, ?_⟩
  have t1 := peek_spec (k + 3) L ws n p2 (by omega)
  have t2 := says_fin (k + 1) L ws n hn p2 (by omega) "" "form" (by decide +kernel) (by decide +kernel)
  rw [if_neg hp2] at t2
  rw [(word_end hws p2).mpr hp2] at t1
  have m1 := m_peek ws n p2
  have q0 : eqR (.str "") (.str "") = some true := by rw [eqR_strs]; simp
  have q1 : eqR (.tup [.str "finish"]) (.tup [.str "finish"]) = some true := by
    have h1 : PyData.strOk ("finish" : Str) = true := by decide +kernel
    unfold eqR
    simp [flatT, fitT, h1, eqT, eqTs]
  have ini := init_spec (k + 3) L ws n
  have fin : xcs (callF Pr G0 D0 L (k + 4)) G0 D0 fx L b_law_cursor_goes_144 ([Iv.own (jarO j), Iv.own (.lst (ws.map T.str)), Iv.val (.int n)].map some ++ List.replicate (12 - 3) none) = .ok (.ret (.val (.bl true))) [some (.own (jarO j1)), some (.own (.lst (ws.map T.str))), some (.val (.int n)), some (.own (curO ws n p2)), some (.val (.int (p1 : Int))), s1, a2, b1, c1, d1, e1, g1] := by
    unfold b_law_cursor_goes_144
    refine xcs_step (e1 := [some (.own (jarO j)), some (.own (.lst (ws.map T.str))), some (.val (.int n)), some (.own (curO ws n 0)), none, none, none, none, none, none, none, none]) (by simp [makeR, ini, f3]) ?_
    refine xcs_step (e1 := gEnv j ws n 0 none none none none none none none) (by simp [gEnv, f4]) ?_
    refine xcs_step (for_ok (items := rngT 0 (ws.length + 4)) (lk := none) (e1 := gEnv j ws n 0 none none none none none none none) (by
      have hi := inRng_nat (z := ws.length + 4) (by omega)
      have ei : ((ws.length + 4 : Nat) : Int) = (ws.length : Int) + 4 := by omega
      rw [ei] at hi
      have et : ((ws.length : Int) + 4).toNat = ws.length + 4 := by omega
      simp [gEnv, hz, hi, et]) hl') ?_
    refine xcs_step (for_ok (items := (ws.drop p1).map T.str) (lk := none) (e1 := gEnv j1 ws n p1 s1 a1 b1 c1 d1 e1 g1) (by
      have hc := cut_from (ws.map T.str) p1
      rw [← List.map_drop] at hc
      simp [gEnv, hc]) hl2) ?_
    exact xcs_ret (by simp [unlockE, m1, t1, t2, q0, q1])
  rw [fin]
  rfl
end G
namespace G
open PySem PySem.Spec PyProof.Rows L2

variable (k L : Nat)
/-! # lines -/
theorem joinL_len : ∀ (ps : List (List Nat)), (TL.joinL [10] ps).length ≤ (ps.map List.length).sum + ps.length
  | [] => by simp [TL.joinL]
  | [p] => by simp [TL.joinL]
  | p :: q :: r => by
    have := joinL_len (q :: r)
    simp only [TL.joinL, List.length_append, List.map_cons, List.sum_cons, List.length_cons, List.length_nil] at this ⊢
    omega
theorem lines_ok {ls : List Str} (hne : ls ≠ []) (h : ∀ l ∈ ls, 10 ∉ l.cps.toList) (hl : (ls.map Str.length).sum + ls.length ≤ 90000) :
    met1R .join ("\n" : Str) (.lst (ls.map T.str)) = some (.val (.str (Txt.join ("\n" : Str) ls))) ∧ callF Pr G0 D0 L (k + 1) 104 [.val (.str (Txt.join ("\n" : Str) ls))] = .ok (.val (.tup (ls.map T.str))) [.val (.str (Txt.join ("\n" : Str) ls))] := by
  have e0 : TL.tl ("\n" : Str) = [10] := by decide +kernel
  have h5 : ("\n" : Str).length = 1 := by decide +kernel
  constructor
  · simp only [met1R, seqA, Option.bind_some, strsT_map, h5]
    rw [if_pos (by omega)]
  · have hs : Txt.split (Txt.join ("\n" : Str) ls) ("\n" : Str) = ls := TL.split_join (s := 10) (S := []) e0 (by decide +kernel) hne h
    have h1 : (Txt.join ("\n" : Str) ls).length ≤ 90000 := by
      have h3 : Txt.join ("\n" : Str) ls = Str.join ("\n" : Str) ls := TL.join_eq _ _
      rw [h3, TL.len_tl, TL.tl_join, e0]
      have h6 := joinL_len (ls.map TL.tl)
      have h7 : ((ls.map TL.tl).map List.length).sum = (ls.map Str.length).sum := by
        rw [List.map_map]; congr 1
      rw [h7, List.length_map] at h6
      omega
    generalize Txt.join ("\n" : Str) ls = J at *
    have h2 : J.length + 2 ≤ sizeLine := le_size (by omega)
    rw [callF_succ (f := ⟨1, 1, b_lines_of⟩) rfl rfl]
    simp [b_lines_of, met1R, h5, h2, hs]
theorem eqT_strs : ∀ (as bs : List Str), eqTs (eqT 39) (as.map T.str) (bs.map T.str) = decide (as = bs)
  | [], [] => rfl
  | [], b :: bs => rfl
  | a :: as, [] => rfl
  | a :: as, b :: bs => by
    simp only [List.map_cons, eqTs, eqT_strs as bs, eqT]
    by_cases h : a = b <;> by_cases h2 : as = bs <;> simp [h, h2]
theorem eq_tups {as : List Str} (h : ∀ s ∈ as, PyData.strOk s = true) : eqR (.tup (as.map T.str)) (.tup (as.map T.str)) = some true := by
  have f1 : fitT 40 (.tup (as.map T.str)) = true := by
    simp only [fitT, List.all_map, List.all_eq_true, Function.comp]; exact h
  unfold eqR
  simp [flatT, f1, eqT, eqT_strs]
/-! # what a line says -/
def lineT (n : Int) (ws : List Str) : T := if ws = [] then refT n "empty" else .tup [.str "words", .tup (ws.map T.str)]
theorem line_due (ws : List Str) (n : Int) : callF Pr G0 D0 L (k + 1) 131 [.own (.lst (ws.map T.str)), .val (.int n)] = .ok (.val (lineT n ws)) [.own (.lst (ws.map T.str)), .val (.int n)] := by
  rw [callF_succ (f := ⟨2, 2, b_law_line_due⟩) rfl rfl]
  unfold lineT refT
  cases ws with
  | nil => simp [b_law_line_due, truR]
  | cons a as => simp [b_law_line_due, truR]
theorem says_row {z : Str} {ws : List Str} {l : Option Str} (h : Lx z.cps.toList ws l) (hz : z.length ≤ 50000) (hL : z.length < L) {n : Int} (hn : 0 ≤ n ∧ n ≤ 1000) : callF Pr G0 D0 L (k + 3) 142 [.val (.str z), .val (.int n)] = .ok (.val (lineT n ws)) [.val (.str z), .val (.int n)] := by
  have hlen : z.length = z.cps.toList.length := TL.len_tl z
  have hx := lex_ok h (f := L) (by omega)
  unfold lineT
  by_cases he : ws = []
  · rw [if_pos he]
    rw [he] at hx
    exact line_bad k L (by decide +kernel) (words_of_empty k L hz hL hn hx)
  · rw [if_neg he]
    exact line_ok k L (words_of_ok k L hz hL hn hx he)
theorem says_bad {z t : Str} {s : List Nat} {ws : List Str} {l : Option Str} (h : Lx t.cps.toList ws l) (hs : Bd s) (e : z.cps.toList = t.cps.toList ++ s) (hz : z.length ≤ 50000) (hL : z.length + 4 < L) {n : Int} (hn : 0 ≤ n ∧ n ≤ 1000) : callF Pr G0 D0 L (k + 3) 142 [.val (.str z), .val (.int n)] = .ok (.val (refT n "sign")) [.val (.str z), .val (.int n)] := by
  have hlen : z.length = z.cps.toList.length := TL.len_tl z
  have h1 := congrArg List.length e
  rw [List.length_append] at h1
  have hx := lex_bad h hs (f := L) (by omega)
  rw [← e] at hx
  exact line_bad k L (by decide +kernel) (words_of_bad k L hz (by omega) hn hx)
theorem line_repr {n : Int} (hn : 0 ≤ n ∧ n ≤ 1000) {ws : List Str} (hw : ∀ w ∈ ws, Wo w) (hl : ws.length ≤ 200) : ∃ s, reprT (lineT n ws) = some s := by
  unfold lineT
  split
  · exact ref_repr hn (by decide +kernel) (by decide +kernel)
  · have h1 : Rb 100 1 (101 * (ws.map T.str).length) (.tup (ws.map T.str)) := rb_all (n := 100) fun t ht => by
      obtain ⟨w, hw1, rfl⟩ := List.mem_map.mp ht
      exact rb_st (wd_ok (hw w hw1).wd) (hw w hw1).wd.1
    rw [List.length_map] at h1
    exact reprb_ok (B := 100) (n := 21000) ((rb_to (k := 2) (rb_cons (rb_st (by decide +kernel) (by decide +kernel)) (rb_one h1)) (by omega)).mono (by omega)) rfl (by decide) (by decide)
theorem between_ex (j : Jar) (lo hi : Int) (h : lo ≤ hi) (hl : hi - lo < 2 ^ 90) : ∃ (n : Int) (j' : Jar), lo ≤ n ∧ n ≤ hi ∧ callF Pr G0 D0 L (k + 3) 16 [.own (jarO j), .val (.int lo), .val (.int hi)] = .ok (.val (.int n)) [.own (jarO j'), .val (.int lo), .val (.int hi)] := by
  rw [callF_succ (f := ⟨3, 3, b_law_between⟩) rfl rfl]
  obtain ⟨d, j', hd, h1⟩ := drawn k L j (hi - lo + 1) (by omega)
  exact ⟨lo + d, j', by omega, by omega, by simp [b_law_between, h1]⟩
end G
namespace G
open PySem PySem.Spec PyProof.Rows L2

theorem lt_cases6 {i : Nat} (h : i < 6) : i = 0 ∨ i = 1 ∨ i = 2 ∨ i = 3 ∨ i = 4 ∨ i = 5 := by omega
theorem plain_law (zs : List Int) (h : zs.length ≤ 63) : ∃ L outs, callF Pr G0 D0 L 30 145 [.val (.rlst (zs.map T.int))] = .ok (.val (.bl true)) outs := by
  obtain ⟨L, hL⟩ : ∃ L : Nat, 60000 < L := ⟨60001, by decide⟩
  refine ⟨L, [.val (.rlst (zs.map T.int))], ?_⟩
  rw [callF_succ (f := ⟨1, 17, b_law_145⟩) rfl rfl]
  generalize hfx : fxOf [.val (.rlst (zs.map T.int))] = fx
  have fxs : fx 1 = false ∧ fx 2 = false ∧ fx 3 = false ∧ fx 4 = false ∧ fx 5 = false ∧ fx 6 = false ∧ fx 7 = false ∧ fx 8 = false ∧ fx 9 = false ∧ fx 10 = false ∧ fx 11 = false ∧ fx 12 = false ∧ fx 13 = false ∧ fx 14 = false ∧ fx 15 = false ∧ fx 16 = false := by
    subst hfx; exact ⟨rfl, rfl, rfl, rfl, rfl, rfl, rfl, rfl, rfl, rfl, rfl, rfl, rfl, rfl, rfl, rfl⟩
  obtain ⟨f1, f2, f3, f4, f5, f6, f7, f8, f9, f10, f11, f12, f13, f14, f15, f16⟩ := fxs
  obtain ⟨j0, hj0⟩ : ∃ j, callF Pr G0 D0 L 29 14 [.val (.rlst (zs.map T.int)), .val (.int 0)] = .ok (.own (jarO j)) [.val (.rlst (zs.map T.int)), .val (.int 0)] := jar_spec 28 L zs 0 h (by omega)
  obtain ⟨m0, hj1⟩ : ∃ j, callF Pr G0 D0 L 29 14 [.val (.rlst (zs.map T.int)), .val (.int 1)] = .ok (.own (jarO j)) [.val (.rlst (zs.map T.int)), .val (.int 1)] := jar_spec 28 L zs 1 h (by omega)
  obtain ⟨c0, hj2⟩ : ∃ j, callF Pr G0 D0 L 29 14 [.val (.rlst (zs.map T.int)), .val (.int 2)] = .ok (.own (jarO j)) [.val (.rlst (zs.map T.int)), .val (.int 2)] := jar_spec 28 L zs 2 h (by omega)
  obtain ⟨d0, hj3⟩ : ∃ j, callF Pr G0 D0 L 29 14 [.val (.rlst (zs.map T.int)), .val (.int 3)] = .ok (.own (jarO j)) [.val (.rlst (zs.map T.int)), .val (.int 3)] := jar_spec 28 L zs 3 h (by omega)
  generalize hsc : (T.rlst (zs.map T.int)) = sc at *
  obtain ⟨ws, j1, hws, hwl, e3⟩ : ∃ (ws : List Str) (j' : Jar), (∀ w ∈ ws, Wo w) ∧ ws.length ≤ 60 ∧ callF Pr G0 D0 L 29 129 [.own (jarO j0)] = .ok (.own (.lst (ws.map T.str))) [.own (jarO j')] := row_spec 24 L j0
  obtain ⟨vs, c1, hvs, hvl, e4⟩ : ∃ (ws : List Str) (j' : Jar), (∀ w ∈ ws, Wo w) ∧ ws.length ≤ 60 ∧ callF Pr G0 D0 L 29 129 [.own (jarO c0)] = .ok (.own (.lst (ws.map T.str))) [.own (jarO j')] := row_spec 24 L c0
  obtain ⟨n, m1, hn1, hn2, e5⟩ : ∃ (n : Int) (j' : Jar), 1 ≤ n ∧ n ≤ 400 ∧ callF Pr G0 D0 L 29 16 [.own (jarO m0), .val (.int 1), .val (.int 400)] = .ok (.val (.int n)) [.own (jarO j'), .val (.int 1), .val (.int 400)] := between_ex 26 L m0 1 400 (by omega) (by decide)
  have hn : 0 ≤ n ∧ n ≤ 1000 := by omega
  have hwd : ∀ w ∈ ws, Wd w := fun w hw => (hws w hw).wd
  have hvd : ∀ w ∈ vs, Wd w := fun w hw => (hvs w hw).wd
  have sp : ∀ (j : Jar) (xs : List Str), (∀ w ∈ xs, Wd w) → xs.length ≤ 200 → ∃ (j' : Jar) (t : Str), Sp t xs ∧ callF Pr G0 D0 L 29 125 [.own (jarO j), .own (.lst (xs.map T.str))] = .ok (.val (.str t)) [.own (jarO j'), .own (.lst (xs.map T.str))] := fun j xs h1 h2 => spaced_spec 26 L j h1 h2
  obtain ⟨m2, t1, s1, e6⟩ := sp m1 ws hwd (by omega)
  obtain ⟨m3, t2, s2, e7⟩ := sp m2 vs hvd (by omega)
  obtain ⟨b, m4, hb, e8⟩ : ∃ (d : Nat) (j' : Jar), (d : Int) < 4 ∧ callF Pr G0 D0 L 29 15 [.own (jarO m3), .val (.int 4)] = .ok (.val (.int (d : Int))) [.own (jarO j'), .val (.int 4)] := drawn 27 L m3 4 (by decide)
  obtain ⟨c, m5, hc, e9⟩ : ∃ (d : Nat) (j' : Jar), (d : Int) < ((ws.length : Int) + 1) ∧ callF Pr G0 D0 L 29 15 [.own (jarO m4), .val (.int ((ws.length : Int) + 1))] = .ok (.val (.int (d : Int))) [.own (jarO j'), .val (.int ((ws.length : Int) + 1))] := drawn 27 L m4 _ (by omega)
  obtain ⟨m6, t3, s3, e10⟩ := sp m5 (ws.take c) (fun w hw => hwd w (List.mem_of_mem_take hw)) (by rw [List.length_take]; omega)
  obtain ⟨m7, bd, hbd, e11⟩ : ∃ (j' : Jar) (b : Str), Bs b ∧ callF Pr G0 D0 L 29 126 [.own (jarO m6)] = .ok (.val (.str b)) [.own (jarO j')] := bad_spec 25 L m6
  obtain ⟨m8, t4, s4, e12⟩ := sp m7 (ws.drop c) (fun w hw => hwd w (List.mem_of_mem_drop hw)) (by rw [List.length_drop]; omega)
  have z3 := s3.len
  have z4 := s4.len
  rw [List.length_take] at z3
  rw [List.length_drop] at z4
  have z1 := s1.len
  have z2 := s2.len
  have z5 := hbd.len
  -- the lines
  obtain ⟨l1, x1⟩ := s1.lx
  obtain ⟨l2, x2⟩ := s2.lx
  obtain ⟨l3, x3⟩ := s3.lx
  have sp1 : (" " : Str).cps.toList = [32] := by decide +kernel
  have sl1 : (" " : Str).length = 1 := by decide +kernel
  have xb : Lx (t1 ++ (" " : Str) ++ t2).cps.toList (ws ++ vs) l2 := by
    rw [tlapp, tlapp, sp1]
    have := lx_join x1 x2
    simpa using this
  have lb : (t1 ++ (" " : Str) ++ t2).length ≤ 20000 := by rw [lenapp, lenapp, sl1]; omega
  have xh : Lx (repS (" " : Str) (b : Int)).cps.toList [] none := by rw [rep_blank (by omega)]; exact lx_blanks b
  have lh : (repS (" " : Str) (b : Int)).length ≤ 3 := by rw [rep_len (by omega)]; omega
  have ls : (t3 ++ bd ++ t4).length ≤ 20000 := by rw [lenapp, lenapp]; omega
  have y1 : callF Pr G0 D0 L 29 142 [.val (.str t1), .val (.int n)] = .ok (.val (lineT n ws)) [.val (.str t1), .val (.int n)] := says_row 26 L x1 (by omega) (by omega) hn
  have y2 : callF Pr G0 D0 L 29 142 [.val (.str (t1 ++ (" " : Str) ++ t2)), .val (.int n)] = .ok (.val (lineT n (ws ++ vs))) [.val (.str (t1 ++ (" " : Str) ++ t2)), .val (.int n)] := says_row 26 L xb (by omega) (by omega) hn
  have y3 : callF Pr G0 D0 L 29 142 [.val (.str (repS (" " : Str) (b : Int))), .val (.int n)] = .ok (.val (refT n "empty")) [.val (.str (repS (" " : Str) (b : Int))), .val (.int n)] := says_row 26 L xh (by omega) (by omega) hn
  have x0 : Lx ("" : Str).cps.toList [] none := by
    rw [show ("" : Str).cps.toList = [] from by decide +kernel]; exact lx_nil
  have l0 : ("" : Str).length = 0 := by decide +kernel
  have y0 : callF Pr G0 D0 L 29 142 [.val (.str ""), .val (.int n)] = .ok (.val (refT n "empty")) [.val (.str ""), .val (.int n)] := says_row 26 L x0 (by omega) (by omega) hn
  have y4 : callF Pr G0 D0 L 29 142 [.val (.str (t3 ++ bd ++ t4)), .val (.int n)] = .ok (.val (refT n "sign")) [.val (.str (t3 ++ bd ++ t4)), .val (.int n)] := says_bad 26 L x3 (hbd.bd t4.cps.toList) (by rw [tlapp, tlapp, List.append_assoc]) (by omega) (by omega) hn
  have no10 : ∀ s : Str, (∀ c ∈ s.cps.toList, c < 128 ∧ c ≠ 10) → 10 ∉ s.cps.toList := fun s h q => (h 10 q).2 rfl
  have chb : ∀ c ∈ (t1 ++ (" " : Str) ++ t2).cps.toList, c < 128 ∧ c ≠ 10 := fun c hc => by
    rw [tlapp, tlapp, sp1, List.mem_append, List.mem_append] at hc
    rcases hc with (hc | hc) | hc
    · exact s1.ch c hc
    · have : c = 32 := by simpa using hc
      omega
    · exact s2.ch c hc
  have chh : ∀ c ∈ (repS (" " : Str) (b : Int)).cps.toList, c < 128 ∧ c ≠ 10 := fun c hc => by
    rw [rep_blank (by omega)] at hc
    have := List.eq_of_mem_replicate hc
    omega
  have chs : ∀ c ∈ (t3 ++ bd ++ t4).cps.toList, c < 128 ∧ c ≠ 10 := fun c hc => by
    rw [tlapp, tlapp, List.mem_append, List.mem_append] at hc
    rcases hc with (hc | hc) | hc
    · exact s3.ch c hc
    · exact hbd.ch c hc
    · exact s4.ch c hc
  have ch0 : ∀ c ∈ ("" : Str).cps.toList, c < 128 ∧ c ≠ 10 := fun c hc => by
    rw [show ("" : Str).cps.toList = [] from by decide +kernel] at hc; cases hc
  have w1 : t1.length + (" " : Str).length ≤ sizeLine := by rw [sl1]; exact le_size (by omega)
  have w2 : (t1 ++ (" " : Str)).length + t2.length ≤ sizeLine := le_size (by rw [lenapp, sl1]; omega)
  have w3 : t3.length + bd.length ≤ sizeLine := le_size (by omega)
  have w4 : (t3 ++ bd).length + t4.length ≤ sizeLine := le_size (by rw [lenapp]; omega)
  have w5 : (b : Int) < 1000 ∧ -1000 < (b : Int) ∧ (" " : Str).length ≤ 1000 := by rw [sl1]; omega
  have hzw : ws.length ≤ sizeLine := le_size (by omega)
  have hzv : ws.length + vs.length ≤ sizeLine := le_size (by omega)
  have ct := cut_to (ws.map T.str) c
  have cf := cut_from (ws.map T.str) c
  rw [← List.map_take] at ct
  rw [← List.map_drop] at cf
  have dd1 : callF Pr G0 D0 L 29 131 [.own (.lst (ws.map T.str)), .val (.int n)] = .ok (.val (lineT n ws)) [.own (.lst (ws.map T.str)), .val (.int n)] := line_due 28 L ws n
  have dd2 : callF Pr G0 D0 L 29 131 [.own (.lst (ws.map T.str ++ vs.map T.str)), .val (.int n)] = .ok (.val (lineT n (ws ++ vs))) [.own (.lst (ws.map T.str ++ vs.map T.str)), .val (.int n)] := by
    have := line_due 28 L (ws ++ vs) n
    rwa [List.map_append] at this
  have hwv : ∀ w ∈ ws ++ vs, Wo w := fun w hw => (List.mem_append.mp hw).elim (hws w) (hvs w)
  obtain ⟨d1, gs⟩ : ∃ j' : Jar, callF Pr G0 D0 L 29 144 [.own (jarO d0), .own (.lst (ws.map T.str ++ vs.map T.str)), .val (.int n)] = .ok (.val (.bl true)) [.own (jarO j'), .own (.lst (ws.map T.str ++ vs.map T.str)), .val (.int n)] := by
    have := goes_spec 24 L d0 hwv (by rw [List.length_append]; omega) n hn
    rw [List.map_append] at this
    exact this
  obtain ⟨r1, hr1⟩ := line_repr hn hws (by omega)
  obtain ⟨r2, hr2⟩ := line_repr hn hwv (by rw [List.length_append]; omega)
  obtain ⟨r3, hr3⟩ := ref_repr hn (f := "empty") (by decide +kernel) (by decide +kernel)
  obtain ⟨r4, hr4⟩ := ref_repr hn (f := "sign") (by decide +kernel) (by decide +kernel)
  generalize hTB : t1 ++ (" " : Str) ++ t2 = tb at *
  generalize hTH : repS (" " : Str) (b : Int) = th at *
  generalize hTS : t3 ++ bd ++ t4 = ts at *
  have mem6 : ∀ l ∈ [t1, th, tb, ts, t1, ("" : Str)], ∀ c ∈ l.cps.toList, c < 128 ∧ c ≠ 10 := fun l hl => by
    simp only [List.mem_cons, List.not_mem_nil, or_false] at hl
    rcases hl with rfl | rfl | rfl | rfl | rfl | rfl
    · exact s1.ch
    · exact chh
    · exact chb
    · exact chs
    · exact s1.ch
    · exact ch0
  obtain ⟨jn, hls⟩ := lines_ok 28 L (ls := [t1, th, tb, ts, t1, ("" : Str)]) (by simp) (fun l hl => no10 l (mem6 l hl)) (by simp [l0]; omega)
  have hls' : callF Pr G0 D0 L 29 104 [.val (.str (Txt.join ("\n" : Str) [t1, th, tb, ts, t1, ("" : Str)]))] = .ok (.val (.tup ([t1, th, tb, ts, t1, ("" : Str)].map T.str))) [.val (.str (Txt.join ("\n" : Str) [t1, th, tb, ts, t1, ("" : Str)]))] := hls
  have hlz : callF Pr G0 D0 L 29 104 [.val (.str "")] = .ok (.val (.tup [.str ""])) [.val (.str "")] := by
    have := (lines_ok 28 L (ls := [("" : Str)]) (by simp) (fun l hl => no10 l (by
      have : l = "" := by simpa using hl
      rw [this]; exact ch0)) (by simp [l0])).2
    rw [show Txt.join ("\n" : Str) [("" : Str)] = "" from by decide +kernel] at this
    exact this
  have q1 := eq_tups (as := [t1, th, tb, ts, t1, ("" : Str)]) fun l hl => strOk_ch (mem6 l hl)
  have q2 := eq_tups (as := [("" : Str)]) fun l hl => by
    have : l = "" := by simpa using hl
    rw [this]; exact strOk_ch ch0
  have q3 : ∀ z, eqR (.str z) (.str z) = some true := fun z => by rw [eqR_strs]; simp
  simp only [List.map_cons, List.map_nil] at jn hls' q1 q2
  generalize Txt.join ("\n" : Str) [t1, th, tb, ts, t1, ("" : Str)] = JJ at jn hls'
  generalize hD1 : lineT n ws = D1 at *
  generalize hD2 : lineT n (ws ++ vs) = D2 at *
  have uE : T.tup [.str "refused", .str "BadText", .int n, .str "empty"] = refT n "empty" := rfl
  have uS : T.tup [.str "refused", .str "BadText", .int n, .str "sign"] = refT n "sign" := rfl
  generalize refT n "empty" = RE at *
  generalize refT n "sign" = RS at *
  have hlen2 : (ws.map T.str).length + (vs.map T.str).length ≤ sizeLine := by rw [List.length_map, List.length_map]; exact hzv
  have hlen1 : (ws.map T.str).length = ws.length := List.length_map ..
  generalize ws.map T.str = WS at *
  generalize vs.map T.str = VS at *
  generalize (ws.take c).map T.str = WA at *
  generalize (ws.drop c).map T.str = WB at *
  let E : Option Iv → Env := fun s => [some (.val sc), some (.own (jarO j1)), some (.own (jarO m8)), some (.own (.lst WS)), some (.own (.lst VS)), some (.val (.int n)), some (.val (.str t1)), some (.val (.str tb)), some (.val (.str th)), some (.val (.int c)), some (.val (.str ts)), some (.own (.lst [.str t1, .str th, .str tb, .str ts, .str t1, .str ""])), some (.val RE), some (.val RS), some (.val D1), some (.own (.lst [D1, RE, D2, RS, D1, RE])), s]
  obtain ⟨e', hl', s', he'⟩ := forL_ix (fx := fx) (tg := .name 16) (body := xcs (callF Pr G0 D0 L 29) G0 D0 fx L s_law_145_1) (N := 6) (e := E none) (fun i e => ∃ s, e = E s) ⟨none, rfl⟩ (fun i e hi ⟨s, he⟩ => by
    subst he
    refine ⟨E (some (.val (.int (i : Int)))), E (some (.val (.int (i : Int)))), by simp [E, f16], ?_, _, rfl⟩
    rcases lt_cases6 hi with rfl | rfl | rfl | rfl | rfl | rfl
    · simp [s_law_145_1, E, y1, hr1, q3]
    · simp [s_law_145_1, E, y3, hr3, q3]
    · simp [s_law_145_1, E, y2, hr2, q3]
    · simp [s_law_145_1, E, y4, hr4, q3]
    · simp [s_law_145_1, E, y1, hr1, q3]
    · simp [s_law_145_1, E, y0, hr3, q3])
  subst he'
  have key : xcs (callF Pr G0 D0 L 29) G0 D0 fx L b_law_145 ([Iv.val sc].map some ++ List.replicate (17 - 1) none) = .ok (.ret (.val (.bl true))) (E s') := by
    rw [b_law_145]
    refine xcs_step (by simp [hj0, f1]; rfl) ?_
    refine xcs_step (by simp [hj1, f2]; rfl) ?_
    refine xcs_step (by simp [e3, f3]; rfl) ?_
    refine xcs_step (by simp [hj2, e4, f4]; rfl) ?_
    refine xcs_step (by simp [e5, f5]; rfl) ?_
    refine xcs_step (by simp [e6, f6]; rfl) ?_
    refine xcs_step (by simp [e7, w1, w2, hTB, f7]; rfl) ?_
    refine xcs_step (by simp [e8, w5, hTH, f8]; rfl) ?_
    refine xcs_step (by simp [hlen1, hzw, e9, f9]; rfl) ?_
    refine xcs_step (by simp [ct, cf, e10, e11, e12, w3, w4, hTS, f10]; rfl) ?_
    refine xcs_step (by simp [f11]; rfl) ?_
    refine xcs_step (by simp [jn, hls', hlz, q1, q2]; rfl) ?_
    refine xcs_step (by simp [uE, f12]; rfl) ?_
    refine xcs_step (by simp [uS, f13]; rfl) ?_
    refine xcs_step (by simp [dd1, f14]; rfl) ?_
    refine xcs_step (by simp [dd2, hlen2, f15]; rfl) ?_
    refine xcs_step (for_ok (items := rngT 0 6) (lk := none) (e1 := E none) (by
      have hi := inRng_nat (z := 6) (by omega)
      simp at hi
      simp [E, hi]) hl') ?_
    exact xcs_ret (by simp [unlockE, E, hj3, gs, hlen2])
  show resOf _ (xcs (callF Pr G0 D0 L 29) G0 D0 fx L b_law_145 ([Iv.val sc].map some ++ List.replicate (17 - 1) none)) = _
  rw [key]
  rfl
end G
namespace G
open PySem PySem.Spec PyProof.Rows L2
def topS (i : Nat) : Stmt := PySem.Challenge.pw_holdorslip_k01_words_of.main.body.getD i (.Pass ⟨0, 0, 0, 0⟩)
def x_BadText : XI := ⟨"BadText", ["line", "fault"], IE.fstr (IEs.cons (IE.str "line ") (IEs.cons (IE.var 1) (IEs.cons (IE.str ": ") (IEs.cons (IE.var 2) (IEs.nil))))), ["BadText", "HoldError", "ValueError"]⟩
def x_BadProgram : XI := ⟨"BadProgram", ["line", "fault"], IE.fstr (IEs.cons (IE.str "program line ") (IEs.cons (IE.var 1) (IEs.cons (IE.str ": ") (IEs.cons (IE.var 2) (IEs.nil))))), ["BadProgram", "HoldError", "ValueError"]⟩
def x_BadShape : XI := ⟨"BadShape", ["line", "fault"], IE.fstr (IEs.cons (IE.str "shape line ") (IEs.cons (IE.var 1) (IEs.cons (IE.str ": ") (IEs.cons (IE.var 2) (IEs.nil))))), ["BadShape", "HoldError", "ValueError"]⟩
def x_TooMany : XI := ⟨"TooMany", ["what", "limit"], IE.fstr (IEs.cons (IE.str "more than ") (IEs.cons (IE.var 2) (IEs.cons (IE.str " ") (IEs.cons (IE.var 1) (IEs.nil))))), ["TooMany", "HoldError", "ValueError"]⟩
def x_BadPaper : XI := ⟨"BadPaper", ["place", "fault"], IE.fstr (IEs.cons (IE.str "paper at ") (IEs.cons (IE.var 1) (IEs.cons (IE.str ": ") (IEs.cons (IE.var 2) (IEs.nil))))), ["BadPaper", "HoldError", "ValueError"]⟩
def x_BadQuestion : XI := ⟨"BadQuestion", ["fault"], IE.fstr (IEs.cons (IE.str "question: ") (IEs.cons (IE.var 1) (IEs.nil))), ["BadQuestion", "HoldError", "ValueError"]⟩
def x_BadData : XI := ⟨"BadData", ["place"], IE.fstr (IEs.cons (IE.str "data at ") (IEs.cons (IE.var 1) (IEs.nil))), ["BadData", "HoldError", "ValueError"]⟩
def xs0 : List XI := [x_BadText, x_BadProgram, x_BadShape, x_TooMany, x_BadPaper, x_BadQuestion, x_BadData]
def xn0 : List Str := ["HoldError", "BadText", "BadProgram", "BadShape", "TooMany", "BadPaper", "BadQuestion", "BadData", "ValueError"]
def o_Cursor : OI := ⟨"Cursor", ["words", "line", "place"], some 146, [("peek", 147), ("take", 148), ("taken", 149), ("need", 150), ("finish", 151), ("take_name", 152), ("take_whole", 153)]⟩
def os0 : List OI := [o_Cursor]
def nms : Names0 := ⟨[(("lines_of" : Str), 104), (("name_end" : Str), 117), (("number_end" : Str), 118), (("sign_at" : Str), 119), (("words_of" : Str), 140), (("is_name" : Str), 121), (("is_number" : Str), 122), (("_law_mix" : Str), 13), (("_law_jar" : Str), 14), (("_law_draw" : Str), 15), (("_law_between" : Str), 16), (("_law_pick" : Str), 17), (("_law_signs" : Str), 123), (("_law_apart" : Str), 124), (("_law_spaced" : Str), 125), (("_law_name" : Str), 42), (("_law_bad" : Str), 126), (("_law_word" : Str), 128), (("_law_row" : Str), 129), (("_law_line_says" : Str), 142), (("_law_line_due" : Str), 131), (("_law_cursor_says" : Str), 143), (("_law_cursor_due" : Str), 133), (("_law_cursor_goes" : Str), 144), (("law" : Str), 145)], [("FIGURES", 5), ("SIGNS", 2), ("LETTERS", 3), ("DIGITS", 4)], false, none, ["table"], true, xs0, xn0, os0, [("error_words", 349), ("_law_refusal", 350)]⟩
theorem t_lines_of : Tab nms Pr 104 "lines_of" (topS 15) ["text"] ["text"] := ⟨⟨rfl, rfl, rfl, by decide +kernel, rfl, by decide +kernel, by decide +kernel⟩, ⟨_, rfl, rfl, rfl, rfl, by kernel_rfl⟩, fun _ _ _ _ _ _ us hl => match us, hl with | [_], _ => rfl⟩
theorem t_name_end : Tab nms Pr 117 "name_end" (topS 16) ["line", "place", "end", "sign"] ["line", "place"] := ⟨⟨rfl, rfl, rfl, by decide +kernel, rfl, by decide +kernel, by decide +kernel⟩, ⟨_, rfl, rfl, rfl, rfl, by kernel_rfl⟩, fun _ _ _ _ _ _ us hl => match us, hl with | [_, _], _ => rfl⟩
theorem t_number_end : Tab nms Pr 118 "number_end" (topS 17) ["line", "place", "end"] ["line", "place"] := ⟨⟨rfl, rfl, rfl, by decide +kernel, rfl, by decide +kernel, by decide +kernel⟩, ⟨_, rfl, rfl, rfl, rfl, by kernel_rfl⟩, fun _ _ _ _ _ _ us hl => match us, hl with | [_, _], _ => rfl⟩
theorem t_sign_at : Tab nms Pr 119 "sign_at" (topS 18) ["line", "place", "sign"] ["line", "place"] := ⟨⟨rfl, rfl, rfl, by decide +kernel, rfl, by decide +kernel, by decide +kernel⟩, ⟨_, rfl, rfl, rfl, rfl, by kernel_rfl⟩, fun _ _ _ _ _ _ us hl => match us, hl with | [_, _], _ => rfl⟩
theorem t_words_of_140 : Tab nms Pr 140 "words_of" (topS 19) ["line", "number", "words", "place", "first", "end", "sign"] ["line", "number"] := ⟨⟨rfl, rfl, rfl, by decide +kernel, rfl, by decide +kernel, by decide +kernel⟩, ⟨_, rfl, rfl, rfl, rfl, by kernel_rfl⟩, fun _ _ _ _ _ _ us hl => match us, hl with | [_, _], _ => rfl⟩
theorem t_is_name : Tab nms Pr 121 "is_name" (topS 20) ["word"] ["word"] := ⟨⟨rfl, rfl, rfl, by decide +kernel, rfl, by decide +kernel, by decide +kernel⟩, ⟨_, rfl, rfl, rfl, rfl, by kernel_rfl⟩, fun _ _ _ _ _ _ us hl => match us, hl with | [_], _ => rfl⟩
theorem t_is_number : Tab nms Pr 122 "is_number" (topS 21) ["word"] ["word"] := ⟨⟨rfl, rfl, rfl, by decide +kernel, rfl, by decide +kernel, by decide +kernel⟩, ⟨_, rfl, rfl, rfl, rfl, by kernel_rfl⟩, fun _ _ _ _ _ _ us hl => match us, hl with | [_], _ => rfl⟩
theorem t_law_mix : Tab nms Pr 13 "_law_mix" (topS 24) ["number", "turn", "first", "second"] ["number", "turn"] := ⟨⟨rfl, rfl, rfl, by decide +kernel, rfl, by decide +kernel, by decide +kernel⟩, ⟨_, rfl, rfl, rfl, rfl, by kernel_rfl⟩, fun _ _ _ _ _ _ us hl => match us, hl with | [_, _], _ => rfl⟩
theorem t_law_jar : Tab nms Pr 14 "_law_jar" (topS 25) ["script", "place", "cells", "total", "cell", "great", "number"] ["script", "place"] := ⟨⟨rfl, rfl, rfl, by decide +kernel, rfl, by decide +kernel, by decide +kernel⟩, ⟨_, rfl, rfl, rfl, rfl, by kernel_rfl⟩, fun _ _ _ _ _ _ us hl => match us, hl with | [_, _], _ => rfl⟩
theorem t_law_draw : Tab nms Pr 15 "_law_draw" (topS 26) ["jar", "many", "digit"] ["jar", "many"] := ⟨⟨rfl, rfl, rfl, by decide +kernel, rfl, by decide +kernel, by decide +kernel⟩, ⟨_, rfl, rfl, rfl, rfl, by kernel_rfl⟩, fun _ _ _ _ _ _ us hl => match us, hl with | [_, _], _ => rfl⟩
theorem t_law_between : Tab nms Pr 16 "_law_between" (topS 27) ["jar", "low", "high"] ["jar", "low", "high"] := ⟨⟨rfl, rfl, rfl, by decide +kernel, rfl, by decide +kernel, by decide +kernel⟩, ⟨_, rfl, rfl, rfl, rfl, by kernel_rfl⟩, fun _ _ _ _ _ _ us hl => match us, hl with | [_, _, _], _ => rfl⟩
theorem t_law_pick : Tab nms Pr 17 "_law_pick" (topS 28) ["jar", "row"] ["jar", "row"] := ⟨⟨rfl, rfl, rfl, by decide +kernel, rfl, by decide +kernel, by decide +kernel⟩, ⟨_, rfl, rfl, rfl, rfl, by kernel_rfl⟩, fun _ _ _ _ _ _ us hl => match us, hl with | [_, _], _ => rfl⟩
theorem t_law_signs : Tab nms Pr 123 "_law_signs" (topS 29) [] [] := ⟨⟨rfl, rfl, rfl, by decide +kernel, rfl, by decide +kernel, by decide +kernel⟩, ⟨_, rfl, rfl, rfl, rfl, by kernel_rfl⟩, fun _ _ _ _ _ _ us hl => match us, hl with | [], _ => rfl⟩
theorem t_law_apart : Tab nms Pr 124 "_law_apart" (topS 30) ["first", "second"] ["first", "second"] := ⟨⟨rfl, rfl, rfl, by decide +kernel, rfl, by decide +kernel, by decide +kernel⟩, ⟨_, rfl, rfl, rfl, rfl, by kernel_rfl⟩, fun _ _ _ _ _ _ us hl => match us, hl with | [_, _], _ => rfl⟩
theorem t_law_spaced : Tab nms Pr 125 "_law_spaced" (topS 31) ["jar", "words", "line", "place", "blanks"] ["jar", "words"] := ⟨⟨rfl, rfl, rfl, by decide +kernel, rfl, by decide +kernel, by decide +kernel⟩, ⟨_, rfl, rfl, rfl, rfl, by kernel_rfl⟩, fun _ _ _ _ _ _ us hl => match us, hl with | [_, _], _ => rfl⟩
theorem t_law_name : Tab nms Pr 42 "_law_name" (topS 32) ["jar", "small", "name", "more", "step"] ["jar"] := ⟨⟨rfl, rfl, rfl, by decide +kernel, rfl, by decide +kernel, by decide +kernel⟩, ⟨_, rfl, rfl, rfl, rfl, by kernel_rfl⟩, fun _ _ _ _ _ _ us hl => match us, hl with | [_], _ => rfl⟩
theorem t_law_bad : Tab nms Pr 126 "_law_bad" (topS 33) ["jar", "way"] ["jar"] := ⟨⟨rfl, rfl, rfl, by decide +kernel, rfl, by decide +kernel, by decide +kernel⟩, ⟨_, rfl, rfl, rfl, rfl, by kernel_rfl⟩, fun _ _ _ _ _ _ us hl => match us, hl with | [_], _ => rfl⟩
theorem t_law_word_128 : Tab nms Pr 128 "_law_word" (topS 35) ["jar", "way", "step"] ["jar"] := ⟨⟨rfl, rfl, rfl, by decide +kernel, rfl, by decide +kernel, by decide +kernel⟩, ⟨_, rfl, rfl, rfl, rfl, by kernel_rfl⟩, fun _ _ _ _ _ _ us hl => match us, hl with | [_], _ => rfl⟩
theorem t_law_row : Tab nms Pr 129 "_law_row" (topS 36) ["jar", "many", "step"] ["jar"] := ⟨⟨rfl, rfl, rfl, by decide +kernel, rfl, by decide +kernel, by decide +kernel⟩, ⟨_, rfl, rfl, rfl, rfl, by kernel_rfl⟩, fun _ _ _ _ _ _ us hl => match us, hl with | [_], _ => rfl⟩
theorem t_law_line_says_142 : Tab nms Pr 142 "_law_line_says" (topS 37) ["line", "number", "error"] ["line", "number"] := ⟨⟨rfl, rfl, rfl, by decide +kernel, rfl, by decide +kernel, by decide +kernel⟩, ⟨_, rfl, rfl, rfl, rfl, by kernel_rfl⟩, fun _ _ _ _ _ _ us hl => match us, hl with | [_, _], _ => rfl⟩
theorem t_law_line_due : Tab nms Pr 131 "_law_line_due" (topS 38) ["words", "number"] ["words", "number"] := ⟨⟨rfl, rfl, rfl, by decide +kernel, rfl, by decide +kernel, by decide +kernel⟩, ⟨_, rfl, rfl, rfl, rfl, by kernel_rfl⟩, fun _ _ _ _ _ _ us hl => match us, hl with | [_, _], _ => rfl⟩
theorem t_law_cursor_says_143 : Tab nms Pr 143 "_law_cursor_says" (topS 39) ["cursor", "way", "sought", "fault", "error"] ["cursor", "way", "sought", "fault"] := ⟨⟨rfl, rfl, rfl, by decide +kernel, rfl, by decide +kernel, by decide +kernel⟩, ⟨_, rfl, rfl, rfl, rfl, by kernel_rfl⟩, fun _ _ _ _ _ _ us hl => match us, hl with | [_, _, _, _], _ => rfl⟩
theorem t_law_cursor_due : Tab nms Pr 133 "_law_cursor_due" (topS 40) ["way", "word", "sought", "bad"] ["way", "word", "sought", "bad"] := ⟨⟨rfl, rfl, rfl, by decide +kernel, rfl, by decide +kernel, by decide +kernel⟩, ⟨_, rfl, rfl, rfl, rfl, by kernel_rfl⟩, fun _ _ _ _ _ _ us hl => match us, hl with | [_, _, _, _], _ => rfl⟩
theorem t_law_cursor_goes_144 : Tab nms Pr 144 "_law_cursor_goes" (topS 41) ["jar", "words", "number", "cursor", "place", "step", "word", "sought", "fault", "way", "due", "goes"] ["jar", "words", "number"] := ⟨⟨rfl, rfl, rfl, by decide +kernel, rfl, by decide +kernel, by decide +kernel⟩, ⟨_, rfl, rfl, rfl, rfl, by kernel_rfl⟩, fun _ _ _ _ _ _ us hl => match us, hl with | [_, _, _], _ => rfl⟩
theorem t_law_145 : Tab nms Pr 145 "law" (topS 42) ["script", "jar", "more", "words", "other", "number", "line", "both", "hollow", "at", "spoilt", "lines", "empty", "wrong", "first", "dues", "place"] ["script"] := ⟨⟨rfl, rfl, rfl, by decide +kernel, rfl, by decide +kernel, by decide +kernel⟩, ⟨_, rfl, rfl, rfl, rfl, by kernel_rfl⟩, fun _ _ _ _ _ _ us hl => match us, hl with | [_], _ => rfl⟩
theorem t_Cursor___init__ : TabM nms Pr 146 "__init__" "Cursor.__init__" (clsS (topS 22) 0) ["self", "words", "line"] ["self", "words", "line"] := ⟨⟨rfl, rfl, rfl, by decide +kernel, rfl, by decide +kernel, by decide +kernel⟩, ⟨_, rfl, rfl, rfl, rfl, by kernel_rfl⟩, fun _ _ _ _ _ _ us hl => match us, hl with | [_, _, _], _ => rfl⟩
theorem t_Cursor_peek : TabM nms Pr 147 "peek" "Cursor.peek" (clsS (topS 22) 1) ["self"] ["self"] := ⟨⟨rfl, rfl, rfl, by decide +kernel, rfl, by decide +kernel, by decide +kernel⟩, ⟨_, rfl, rfl, rfl, rfl, by kernel_rfl⟩, fun _ _ _ _ _ _ us hl => match us, hl with | [_], _ => rfl⟩
theorem t_Cursor_take : TabM nms Pr 148 "take" "Cursor.take" (clsS (topS 22) 2) ["self", "word"] ["self"] := ⟨⟨rfl, rfl, rfl, by decide +kernel, rfl, by decide +kernel, by decide +kernel⟩, ⟨_, rfl, rfl, rfl, rfl, by kernel_rfl⟩, fun _ _ _ _ _ _ us hl => match us, hl with | [_], _ => rfl⟩
theorem t_Cursor_taken : TabM nms Pr 149 "taken" "Cursor.taken" (clsS (topS 22) 3) ["self", "word"] ["self", "word"] := ⟨⟨rfl, rfl, rfl, by decide +kernel, rfl, by decide +kernel, by decide +kernel⟩, ⟨_, rfl, rfl, rfl, rfl, by kernel_rfl⟩, fun _ _ _ _ _ _ us hl => match us, hl with | [_, _], _ => rfl⟩
theorem t_Cursor_need : TabM nms Pr 150 "need" "Cursor.need" (clsS (topS 22) 4) ["self", "word", "fault"] ["self", "word", "fault"] := ⟨⟨rfl, rfl, rfl, by decide +kernel, rfl, by decide +kernel, by decide +kernel⟩, ⟨_, rfl, rfl, rfl, rfl, by kernel_rfl⟩, fun _ _ _ _ _ _ us hl => match us, hl with | [_, _, _], _ => rfl⟩
theorem t_Cursor_finish : TabM nms Pr 151 "finish" "Cursor.finish" (clsS (topS 22) 5) ["self", "fault"] ["self", "fault"] := ⟨⟨rfl, rfl, rfl, by decide +kernel, rfl, by decide +kernel, by decide +kernel⟩, ⟨_, rfl, rfl, rfl, rfl, by kernel_rfl⟩, fun _ _ _ _ _ _ us hl => match us, hl with | [_, _], _ => rfl⟩
theorem t_Cursor_take_name : TabM nms Pr 152 "take_name" "Cursor.take_name" (clsS (topS 22) 6) ["self", "fault"] ["self", "fault"] := ⟨⟨rfl, rfl, rfl, by decide +kernel, rfl, by decide +kernel, by decide +kernel⟩, ⟨_, rfl, rfl, rfl, rfl, by kernel_rfl⟩, fun _ _ _ _ _ _ us hl => match us, hl with | [_, _], _ => rfl⟩
theorem t_Cursor_take_whole : TabM nms Pr 153 "take_whole" "Cursor.take_whole" (clsS (topS 22) 7) ["self", "fault"] ["self", "fault"] := ⟨⟨rfl, rfl, rfl, by decide +kernel, rfl, by decide +kernel, by decide +kernel⟩, ⟨_, rfl, rfl, rfl, rfl, by kernel_rfl⟩, fun _ _ _ _ _ _ us hl => match us, hl with | [_, _], _ => rfl⟩
theorem t_error_words_349 : TabE nms Pr 349 "error_words" (topS 9) ["error"] ["error"] := ⟨⟨rfl, rfl, rfl, by decide +kernel, rfl, by decide +kernel, by decide +kernel⟩, ⟨_, _, rfl, rfl, rfl, rfl, by kernel_rfl⟩, fun _ _ _ _ _ _ us hl => match us, hl with | [_], _ => rfl⟩
theorem t_law_refusal_350 : TabE nms Pr 350 "_law_refusal" (topS 34) ["error", "told"] ["error"] := ⟨⟨rfl, rfl, rfl, by decide +kernel, rfl, by decide +kernel, by decide +kernel⟩, ⟨_, _, rfl, rfl, rfl, rfl, by kernel_rfl⟩, fun _ _ _ _ _ _ us hl => match us, hl with | [_], _ => rfl⟩
theorem i_BadText : InitT PySem.Challenge.rw_holdorslip_k01_words_of.prog (clsS (topS 2) 0) "BadText.__init__" ["self", "line", "fault", "__class__"] ["self", "line", "fault"] [("line", 1), ("fault", 2)] x_BadText.msg where
  S := NdefX.nscope_by (by decide +kernel)
  ks := by decide +kernel
  top := by kernel_rfl
  head := ⟨_, rfl, rfl, by decide +kernel⟩
  bd := fun _ _ _ _ _ us hl => match us, hl with | [_, _, _], _ => rfl
  nps := rfl
  body := ⟨_, _, _, _, _, _, _, by kernel_rfl, rfl, .cons rfl rfl (by decide +kernel) (by decide +kernel) (by decide +kernel) (by decide +kernel) (.cons rfl rfl (by decide +kernel) (by decide +kernel) (by decide +kernel) (by decide +kernel) (.nil)), rfl, fun _ => rfl, _, fun _ => rfl⟩
  slots := rfl
  np := rfl
  ne := List.cons_ne_nil _ _
  len := by decide
theorem i_BadProgram : InitT PySem.Challenge.rw_holdorslip_k01_words_of.prog (clsS (topS 3) 0) "BadProgram.__init__" ["self", "line", "fault", "__class__"] ["self", "line", "fault"] [("line", 1), ("fault", 2)] x_BadProgram.msg where
  S := NdefX.nscope_by (by decide +kernel)
  ks := by decide +kernel
  top := by kernel_rfl
  head := ⟨_, rfl, rfl, by decide +kernel⟩
  bd := fun _ _ _ _ _ us hl => match us, hl with | [_, _, _], _ => rfl
  nps := rfl
  body := ⟨_, _, _, _, _, _, _, by kernel_rfl, rfl, .cons rfl rfl (by decide +kernel) (by decide +kernel) (by decide +kernel) (by decide +kernel) (.cons rfl rfl (by decide +kernel) (by decide +kernel) (by decide +kernel) (by decide +kernel) (.nil)), rfl, fun _ => rfl, _, fun _ => rfl⟩
  slots := rfl
  np := rfl
  ne := List.cons_ne_nil _ _
  len := by decide
theorem i_BadShape : InitT PySem.Challenge.rw_holdorslip_k01_words_of.prog (clsS (topS 4) 0) "BadShape.__init__" ["self", "line", "fault", "__class__"] ["self", "line", "fault"] [("line", 1), ("fault", 2)] x_BadShape.msg where
  S := NdefX.nscope_by (by decide +kernel)
  ks := by decide +kernel
  top := by kernel_rfl
  head := ⟨_, rfl, rfl, by decide +kernel⟩
  bd := fun _ _ _ _ _ us hl => match us, hl with | [_, _, _], _ => rfl
  nps := rfl
  body := ⟨_, _, _, _, _, _, _, by kernel_rfl, rfl, .cons rfl rfl (by decide +kernel) (by decide +kernel) (by decide +kernel) (by decide +kernel) (.cons rfl rfl (by decide +kernel) (by decide +kernel) (by decide +kernel) (by decide +kernel) (.nil)), rfl, fun _ => rfl, _, fun _ => rfl⟩
  slots := rfl
  np := rfl
  ne := List.cons_ne_nil _ _
  len := by decide
theorem i_TooMany : InitT PySem.Challenge.rw_holdorslip_k01_words_of.prog (clsS (topS 5) 0) "TooMany.__init__" ["self", "what", "limit", "__class__"] ["self", "what", "limit"] [("what", 1), ("limit", 2)] x_TooMany.msg where
  S := NdefX.nscope_by (by decide +kernel)
  ks := by decide +kernel
  top := by kernel_rfl
  head := ⟨_, rfl, rfl, by decide +kernel⟩
  bd := fun _ _ _ _ _ us hl => match us, hl with | [_, _, _], _ => rfl
  nps := rfl
  body := ⟨_, _, _, _, _, _, _, by kernel_rfl, rfl, .cons rfl rfl (by decide +kernel) (by decide +kernel) (by decide +kernel) (by decide +kernel) (.cons rfl rfl (by decide +kernel) (by decide +kernel) (by decide +kernel) (by decide +kernel) (.nil)), rfl, fun _ => rfl, _, fun _ => rfl⟩
  slots := rfl
  np := rfl
  ne := List.cons_ne_nil _ _
  len := by decide
theorem i_BadPaper : InitT PySem.Challenge.rw_holdorslip_k01_words_of.prog (clsS (topS 6) 0) "BadPaper.__init__" ["self", "place", "fault", "__class__"] ["self", "place", "fault"] [("place", 1), ("fault", 2)] x_BadPaper.msg where
  S := NdefX.nscope_by (by decide +kernel)
  ks := by decide +kernel
  top := by kernel_rfl
  head := ⟨_, rfl, rfl, by decide +kernel⟩
  bd := fun _ _ _ _ _ us hl => match us, hl with | [_, _, _], _ => rfl
  nps := rfl
  body := ⟨_, _, _, _, _, _, _, by kernel_rfl, rfl, .cons rfl rfl (by decide +kernel) (by decide +kernel) (by decide +kernel) (by decide +kernel) (.cons rfl rfl (by decide +kernel) (by decide +kernel) (by decide +kernel) (by decide +kernel) (.nil)), rfl, fun _ => rfl, _, fun _ => rfl⟩
  slots := rfl
  np := rfl
  ne := List.cons_ne_nil _ _
  len := by decide
theorem i_BadQuestion : InitT PySem.Challenge.rw_holdorslip_k01_words_of.prog (clsS (topS 7) 0) "BadQuestion.__init__" ["self", "fault", "__class__"] ["self", "fault"] [("fault", 1)] x_BadQuestion.msg where
  S := NdefX.nscope_by (by decide +kernel)
  ks := by decide +kernel
  top := by kernel_rfl
  head := ⟨_, rfl, rfl, by decide +kernel⟩
  bd := fun _ _ _ _ _ us hl => match us, hl with | [_, _], _ => rfl
  nps := rfl
  body := ⟨_, _, _, _, _, _, _, by kernel_rfl, rfl, .cons rfl rfl (by decide +kernel) (by decide +kernel) (by decide +kernel) (by decide +kernel) (.nil), rfl, fun _ => rfl, _, fun _ => rfl⟩
  slots := rfl
  np := rfl
  ne := List.cons_ne_nil _ _
  len := by decide
theorem i_BadData : InitT PySem.Challenge.rw_holdorslip_k01_words_of.prog (clsS (topS 8) 0) "BadData.__init__" ["self", "place", "__class__"] ["self", "place"] [("place", 1)] x_BadData.msg where
  S := NdefX.nscope_by (by decide +kernel)
  ks := by decide +kernel
  top := by kernel_rfl
  head := ⟨_, rfl, rfl, by decide +kernel⟩
  bd := fun _ _ _ _ _ us hl => match us, hl with | [_, _], _ => rfl
  nps := rfl
  body := ⟨_, _, _, _, _, _, _, by kernel_rfl, rfl, .cons rfl rfl (by decide +kernel) (by decide +kernel) (by decide +kernel) (by decide +kernel) (.nil), rfl, fun _ => rfl, _, fun _ => rfl⟩
  slots := rfl
  np := rfl
  ne := List.cons_ne_nil _ _
  len := by decide
theorem all_mk {w : World} {K : PySem.W.Frag} {h : Heap} {mg : Str → Option Value} {fa : Addr} (X : K.In h) (Gn : h.Ns mainGlobals mg) (hfa : mg "law" = some (.ref fa)) (r0 : ∃ f, Raw K "lines_of" (topS 15) f) (r1 : ∃ f, Raw K "name_end" (topS 16) f) (r2 : ∃ f, Raw K "number_end" (topS 17) f) (r3 : ∃ f, Raw K "sign_at" (topS 18) f) (r4 : ∃ f, Raw K "words_of" (topS 19) f) (r5 : ∃ f, Raw K "is_name" (topS 20) f) (r6 : ∃ f, Raw K "is_number" (topS 21) f) (r7 : ∃ f, Raw K "_law_mix" (topS 24) f) (r8 : ∃ f, Raw K "_law_jar" (topS 25) f) (r9 : ∃ f, Raw K "_law_draw" (topS 26) f) (r10 : ∃ f, Raw K "_law_between" (topS 27) f) (r11 : ∃ f, Raw K "_law_pick" (topS 28) f) (r12 : ∃ f, Raw K "_law_signs" (topS 29) f) (r13 : ∃ f, Raw K "_law_apart" (topS 30) f) (r14 : ∃ f, Raw K "_law_spaced" (topS 31) f) (r15 : ∃ f, Raw K "_law_name" (topS 32) f) (r16 : ∃ f, Raw K "_law_bad" (topS 33) f) (r17 : ∃ f, Raw K "_law_word" (topS 35) f) (r18 : ∃ f, Raw K "_law_row" (topS 36) f) (r19 : ∃ f, Raw K "_law_line_says" (topS 37) f) (r20 : ∃ f, Raw K "_law_line_due" (topS 38) f) (r21 : ∃ f, Raw K "_law_cursor_says" (topS 39) f) (r22 : ∃ f, Raw K "_law_cursor_due" (topS 40) f) (r23 : ∃ f, Raw K "_law_cursor_goes" (topS 41) f) (r24 : ∃ f, Raw K "law" (topS 42) f) (g5 : ∃ v u, mg "FIGURES" = some u ∧ RelV v u ∧ ∀ F, Den K F v (G0 5)) (g2 : ∃ v u, mg "SIGNS" = some u ∧ RelV v u ∧ ∀ F, Den K F v (G0 2)) (g3 : ∃ v u, mg "LETTERS" = some u ∧ RelV v u ∧ ∀ F, Den K F v (G0 3)) (g4 : ∃ v u, mg "DIGITS" = some u ∧ RelV v u ∧ ∀ F, Den K F v (G0 4)) (re9 : ∃ f, Raw K "error_words" (topS 9) f) (re34 : ∃ f, Raw K "_law_refusal" (topS 34) f) {A1 A2 A3 A4 A5 A6 A7 A8 : Addr} (xb1 : PySem.W.nsIn K mainGlobals "HoldError" = some (some (.ref A1))) (xr2 : RawX K PySem.Challenge.rw_holdorslip_k01_words_of.prog "BadText" "BadText.__init__" (clsS (topS 2) 0) ["line", "fault"] A2) (xr3 : RawX K PySem.Challenge.rw_holdorslip_k01_words_of.prog "BadProgram" "BadProgram.__init__" (clsS (topS 3) 0) ["line", "fault"] A3) (xr4 : RawX K PySem.Challenge.rw_holdorslip_k01_words_of.prog "BadShape" "BadShape.__init__" (clsS (topS 4) 0) ["line", "fault"] A4) (xr5 : RawX K PySem.Challenge.rw_holdorslip_k01_words_of.prog "TooMany" "TooMany.__init__" (clsS (topS 5) 0) ["what", "limit"] A5) (xr6 : RawX K PySem.Challenge.rw_holdorslip_k01_words_of.prog "BadPaper" "BadPaper.__init__" (clsS (topS 6) 0) ["place", "fault"] A6) (xr7 : RawX K PySem.Challenge.rw_holdorslip_k01_words_of.prog "BadQuestion" "BadQuestion.__init__" (clsS (topS 7) 0) ["fault"] A7) (xr8 : RawX K PySem.Challenge.rw_holdorslip_k01_words_of.prog "BadData" "BadData.__init__" (clsS (topS 8) 0) ["place"] A8) (xv : PySem.W.nsIn K mainGlobals "ValueError" = some none) (xrel : xrB K [(A2, x_BadText.up), (A3, x_BadProgram.up), (A4, x_BadShape.up), (A5, x_TooMany.up), (A6, x_BadPaper.up), (A7, x_BadQuestion.up), (A8, x_BadData.up)] [("HoldError", Value.ref A1), ("BadText", Value.ref A2), ("BadProgram", Value.ref A3), ("BadShape", Value.ref A4), ("TooMany", Value.ref A5), ("BadPaper", Value.ref A6), ("BadQuestion", Value.ref A7), ("BadData", Value.ref A8), ("ValueError", Value.type "ValueError")] = true) {B22 : Addr} (oc22 : PySem.W.nsIn K mainGlobals "Cursor" = some (some (.ref B22))) (ob22 : oB K B22 o_Cursor.fl = true) (rm22_0 : ∃ f, RawM K B22 "__init__" "Cursor.__init__" (clsS (topS 22) 0) f) (rm22_1 : ∃ f, RawM K B22 "peek" "Cursor.peek" (clsS (topS 22) 1) f) (rm22_2 : ∃ f, RawM K B22 "take" "Cursor.take" (clsS (topS 22) 2) f) (rm22_3 : ∃ f, RawM K B22 "taken" "Cursor.taken" (clsS (topS 22) 3) f) (rm22_4 : ∃ f, RawM K B22 "need" "Cursor.need" (clsS (topS 22) 4) f) (rm22_5 : ∃ f, RawM K B22 "finish" "Cursor.finish" (clsS (topS 22) 5) f) (rm22_6 : ∃ f, RawM K B22 "take_name" "Cursor.take_name" (clsS (topS 22) 6) f) (rm22_7 : ∃ f, RawM K B22 "take_whole" "Cursor.take_whole" (clsS (topS 22) 7) f) (z : NoneOf K bNames) :
    ∃ fd : FuncData, (∀ (s : Shared) (v : Value), BindsTo s fd ⟨[v], []⟩ [("script", v)]) ∧ ∀ b0 : Heap, K.In b0 → b0.Ns mainGlobals mg → (∃ m, b0.Ns sysModules m) → FnG true PySem.Challenge.rw_holdorslip_k01_words_of.prog w K mg b0 62 fa fd ["script"] (spLaw Pr G0 D0 30 145 K) := by
  obtain ⟨f0, r0⟩ := r0
  obtain ⟨d0, Q0, R0, E0⟩ := r0.row (D := D0) X Gn t_lines_of (fun n => rfl)
  obtain ⟨f1, r1⟩ := r1
  obtain ⟨d1, Q1, R1, E1⟩ := r1.row (D := D0) X Gn t_name_end (fun n => rfl)
  obtain ⟨f2, r2⟩ := r2
  obtain ⟨d2, Q2, R2, E2⟩ := r2.row (D := D0) X Gn t_number_end (fun n => rfl)
  obtain ⟨f3, r3⟩ := r3
  obtain ⟨d3, Q3, R3, E3⟩ := r3.row (D := D0) X Gn t_sign_at (fun n => rfl)
  obtain ⟨f4, r4⟩ := r4
  obtain ⟨d4, Q4, R4, E4⟩ := r4.row (D := D0) X Gn t_words_of_140 (fun n => rfl)
  obtain ⟨f5, r5⟩ := r5
  obtain ⟨d5, Q5, R5, E5⟩ := r5.row (D := D0) X Gn t_is_name (fun n => rfl)
  obtain ⟨f6, r6⟩ := r6
  obtain ⟨d6, Q6, R6, E6⟩ := r6.row (D := D0) X Gn t_is_number (fun n => rfl)
  obtain ⟨f7, r7⟩ := r7
  obtain ⟨d7, Q7, R7, E7⟩ := r7.row (D := D0) X Gn t_law_mix (fun n => rfl)
  obtain ⟨f8, r8⟩ := r8
  obtain ⟨d8, Q8, R8, E8⟩ := r8.row (D := D0) X Gn t_law_jar (fun n => rfl)
  obtain ⟨f9, r9⟩ := r9
  obtain ⟨d9, Q9, R9, E9⟩ := r9.row (D := D0) X Gn t_law_draw (fun n => rfl)
  obtain ⟨f10, r10⟩ := r10
  obtain ⟨d10, Q10, R10, E10⟩ := r10.row (D := D0) X Gn t_law_between (fun n => rfl)
  obtain ⟨f11, r11⟩ := r11
  obtain ⟨d11, Q11, R11, E11⟩ := r11.row (D := D0) X Gn t_law_pick (fun n => rfl)
  obtain ⟨f12, r12⟩ := r12
  obtain ⟨d12, Q12, R12, E12⟩ := r12.row (D := D0) X Gn t_law_signs (fun n => rfl)
  obtain ⟨f13, r13⟩ := r13
  obtain ⟨d13, Q13, R13, E13⟩ := r13.row (D := D0) X Gn t_law_apart (fun n => rfl)
  obtain ⟨f14, r14⟩ := r14
  obtain ⟨d14, Q14, R14, E14⟩ := r14.row (D := D0) X Gn t_law_spaced (fun n => rfl)
  obtain ⟨f15, r15⟩ := r15
  obtain ⟨d15, Q15, R15, E15⟩ := r15.row (D := D0) X Gn t_law_name (fun n => rfl)
  obtain ⟨f16, r16⟩ := r16
  obtain ⟨d16, Q16, R16, E16⟩ := r16.row (D := D0) X Gn t_law_bad (fun n => rfl)
  obtain ⟨f17, r17⟩ := r17
  obtain ⟨d17, Q17, R17, E17⟩ := r17.row (D := D0) X Gn t_law_word_128 (fun n => rfl)
  obtain ⟨f18, r18⟩ := r18
  obtain ⟨d18, Q18, R18, E18⟩ := r18.row (D := D0) X Gn t_law_row (fun n => rfl)
  obtain ⟨f19, r19⟩ := r19
  obtain ⟨d19, Q19, R19, E19⟩ := r19.row (D := D0) X Gn t_law_line_says_142 (fun n => rfl)
  obtain ⟨f20, r20⟩ := r20
  obtain ⟨d20, Q20, R20, E20⟩ := r20.row (D := D0) X Gn t_law_line_due (fun n => rfl)
  obtain ⟨f21, r21⟩ := r21
  obtain ⟨d21, Q21, R21, E21⟩ := r21.row (D := D0) X Gn t_law_cursor_says_143 (fun n => rfl)
  obtain ⟨f22, r22⟩ := r22
  obtain ⟨d22, Q22, R22, E22⟩ := r22.row (D := D0) X Gn t_law_cursor_due (fun n => rfl)
  obtain ⟨f23, r23⟩ := r23
  obtain ⟨d23, Q23, R23, E23⟩ := r23.row (D := D0) X Gn t_law_cursor_goes_144 (fun n => rfl)
  obtain ⟨f24, r24⟩ := r24
  obtain ⟨d24, Q24, R24, E24⟩ := r24.row (D := D0) X Gn t_law_145 (fun n => rfl)
  obtain ⟨fe9, re9⟩ := re9
  obtain ⟨de9, Qe9, Re9⟩ := re9.erow X Gn t_error_words_349
  obtain ⟨fe34, re34⟩ := re34
  obtain ⟨de34, Qe34, Re34⟩ := re34.erow X Gn t_law_refusal_350
  have fa_eq := hfa.symm.trans Q24
  cases fa_eq
  have XF : XFacts PySem.Challenge.rw_holdorslip_k01_words_of.prog K mg xs0 xn0 := xfacts_mk X Gn (.cons (RawX.made (xi := x_BadText) X Gn xr2 i_BadText rfl) (.cons (RawX.made (xi := x_BadProgram) X Gn xr3 i_BadProgram rfl) (.cons (RawX.made (xi := x_BadShape) X Gn xr4 i_BadShape rfl) (.cons (RawX.made (xi := x_TooMany) X Gn xr5 i_TooMany rfl) (.cons (RawX.made (xi := x_BadPaper) X Gn xr6 i_BadPaper rfl) (.cons (RawX.made (xi := x_BadQuestion) X Gn xr7 i_BadQuestion rfl) (.cons (RawX.made (xi := x_BadData) X Gn xr8 i_BadData rfl) (.nil)))))))) (.cons (.own xb1) (.cons (.own xr2.ns) (.cons (.own xr3.ns) (.cons (.own xr4.ns) (.cons (.own xr5.ns) (.cons (.own xr6.ns) (.cons (.own xr7.ns) (.cons (.own xr8.ns) (.cons (.blt xv (by decide +kernel) (by decide +kernel)) .nil))))))))) (by decide +kernel) xrel
  obtain ⟨mf22_0, rm22_0⟩ := rm22_0
  obtain ⟨md22_0, mR22_0⟩ := rm22_0.row (D := D0) t_Cursor___init__ (fun n => rfl)
  obtain ⟨mf22_1, rm22_1⟩ := rm22_1
  obtain ⟨md22_1, mR22_1⟩ := rm22_1.row (D := D0) t_Cursor_peek (fun n => rfl)
  obtain ⟨mf22_2, rm22_2⟩ := rm22_2
  obtain ⟨md22_2, mR22_2⟩ := rm22_2.row (D := D0) t_Cursor_take (fun n => rfl)
  obtain ⟨mf22_3, rm22_3⟩ := rm22_3
  obtain ⟨md22_3, mR22_3⟩ := rm22_3.row (D := D0) t_Cursor_taken (fun n => rfl)
  obtain ⟨mf22_4, rm22_4⟩ := rm22_4
  obtain ⟨md22_4, mR22_4⟩ := rm22_4.row (D := D0) t_Cursor_need (fun n => rfl)
  obtain ⟨mf22_5, rm22_5⟩ := rm22_5
  obtain ⟨md22_5, mR22_5⟩ := rm22_5.row (D := D0) t_Cursor_finish (fun n => rfl)
  obtain ⟨mf22_6, rm22_6⟩ := rm22_6
  obtain ⟨md22_6, mR22_6⟩ := rm22_6.row (D := D0) t_Cursor_take_name (fun n => rfl)
  obtain ⟨mf22_7, rm22_7⟩ := rm22_7
  obtain ⟨md22_7, mR22_7⟩ := rm22_7.row (D := D0) t_Cursor_take_whole (fun n => rfl)
  have OF22 : OFacts K mg nms Pr D0 o_Cursor := by
    refine ofacts_mk X Gn oc22 ob22 (fun m i hx => ?_) (fun i hx => ?_)
    · have hm := lookup_mem hx
      simp only [o_Cursor, List.mem_cons, Prod.mk.injEq, List.not_mem_nil, or_false] at hm
      rcases hm with ⟨rfl, rfl⟩ | ⟨rfl, rfl⟩ | ⟨rfl, rfl⟩ | ⟨rfl, rfl⟩ | ⟨rfl, rfl⟩ | ⟨rfl, rfl⟩ | ⟨rfl, rfl⟩
      · exact ⟨_, _, _, _, _, _, rm22_1.me, mR22_1⟩
      · exact ⟨_, _, _, _, _, _, rm22_2.me, mR22_2⟩
      · exact ⟨_, _, _, _, _, _, rm22_3.me, mR22_3⟩
      · exact ⟨_, _, _, _, _, _, rm22_4.me, mR22_4⟩
      · exact ⟨_, _, _, _, _, _, rm22_5.me, mR22_5⟩
      · exact ⟨_, _, _, _, _, _, rm22_6.me, mR22_6⟩
      · exact ⟨_, _, _, _, _, _, rm22_7.me, mR22_7⟩
    · cases hx; exact ⟨_, _, _, _, _, _, rm22_0.me, mR22_0⟩
  have Fa : Facts PySem.Challenge.rw_holdorslip_k01_words_of.prog K mg nms Pr G0 D0 := by
    refine ⟨fun x i hx => ?_, fun x j hx => ?_, none_all X Gn z, fun q => by simp [nms] at q, fun x hx => by simp [nms] at hx, by decide +kernel, XF, fun oi ho => ?_, fun x i hx => ?_⟩
    · have hm := lookup_mem hx
      simp only [nms, List.mem_cons, Prod.mk.injEq, List.not_mem_nil, or_false] at hm
      rcases hm with ⟨rfl, rfl⟩ | ⟨rfl, rfl⟩ | ⟨rfl, rfl⟩ | ⟨rfl, rfl⟩ | ⟨rfl, rfl⟩ | ⟨rfl, rfl⟩ | ⟨rfl, rfl⟩ | ⟨rfl, rfl⟩ | ⟨rfl, rfl⟩ | ⟨rfl, rfl⟩ | ⟨rfl, rfl⟩ | ⟨rfl, rfl⟩ | ⟨rfl, rfl⟩ | ⟨rfl, rfl⟩ | ⟨rfl, rfl⟩ | ⟨rfl, rfl⟩ | ⟨rfl, rfl⟩ | ⟨rfl, rfl⟩ | ⟨rfl, rfl⟩ | ⟨rfl, rfl⟩ | ⟨rfl, rfl⟩ | ⟨rfl, rfl⟩ | ⟨rfl, rfl⟩ | ⟨rfl, rfl⟩ | ⟨rfl, rfl⟩
      · exact ⟨_, _, _, _, _, Q0, R0⟩
      · exact ⟨_, _, _, _, _, Q1, R1⟩
      · exact ⟨_, _, _, _, _, Q2, R2⟩
      · exact ⟨_, _, _, _, _, Q3, R3⟩
      · exact ⟨_, _, _, _, _, Q4, R4⟩
      · exact ⟨_, _, _, _, _, Q5, R5⟩
      · exact ⟨_, _, _, _, _, Q6, R6⟩
      · exact ⟨_, _, _, _, _, Q7, R7⟩
      · exact ⟨_, _, _, _, _, Q8, R8⟩
      · exact ⟨_, _, _, _, _, Q9, R9⟩
      · exact ⟨_, _, _, _, _, Q10, R10⟩
      · exact ⟨_, _, _, _, _, Q11, R11⟩
      · exact ⟨_, _, _, _, _, Q12, R12⟩
      · exact ⟨_, _, _, _, _, Q13, R13⟩
      · exact ⟨_, _, _, _, _, Q14, R14⟩
      · exact ⟨_, _, _, _, _, Q15, R15⟩
      · exact ⟨_, _, _, _, _, Q16, R16⟩
      · exact ⟨_, _, _, _, _, Q17, R17⟩
      · exact ⟨_, _, _, _, _, Q18, R18⟩
      · exact ⟨_, _, _, _, _, Q19, R19⟩
      · exact ⟨_, _, _, _, _, Q20, R20⟩
      · exact ⟨_, _, _, _, _, Q21, R21⟩
      · exact ⟨_, _, _, _, _, Q22, R22⟩
      · exact ⟨_, _, _, _, _, Q23, R23⟩
      · exact ⟨_, _, _, _, _, Q24, R24⟩
    · have hm := lookup_mem hx
      simp only [nms, List.mem_cons, Prod.mk.injEq, List.not_mem_nil, or_false] at hm
      rcases hm with ⟨rfl, rfl⟩ | ⟨rfl, rfl⟩ | ⟨rfl, rfl⟩ | ⟨rfl, rfl⟩
      · exact g5
      · exact g2
      · exact g3
      · exact g4
    · simp only [nms, os0, List.mem_cons, List.not_mem_nil, or_false] at ho
      subst ho
      exact OF22
    · have hm := lookup_mem hx
      simp only [nms, List.mem_cons, Prod.mk.injEq, List.not_mem_nil, or_false] at hm
      rcases hm with ⟨rfl, rfl⟩ | ⟨rfl, rfl⟩
      · exact ⟨_, _, _, _, _, Qe9, Re9⟩
      · exact ⟨_, _, _, _, _, Qe34, Re34⟩
  exact ⟨d24, fun s v => .of_eq (E24 [v] rfl), fun b0 _ _ hb => law_ok (k := 30) hb Fa R24⟩
end G
open PySem PySem.W PyProof.Rows
set_option maxHeartbeats 0 in
theorem PySem.Challenge.cw_holdorslip_k01_words_of_holds : PySem.Challenge.rw_holdorslip_k01_words_of.Holds := by
  w_on; o_law; k_head; (case hw => w_witness2)
  k_fill
  refine G.walk_g (l := PySem.Challenge.rw_holdorslip_k01_words_of) (n := 63) (k := 62) (x := "script") (sp := G.spLaw G.Pr G.G0 G.D0 30 145) (by decide +kernel) rfl (by decide) rfl ⟨rfl, by decide, by decide⟩ (fun w h Y => PySem.W.kIn_of Y) ?F (fun _ _ a ns hl hO hS => G.script_ok hO hS (G.plain_law ns hl))
  case F =>
    intro w mg fa h KX Gn hmg
    refine' G.all_mk KX Gn hmg ?vr0 ?vr1 ?vr2 ?vr3 ?vr4 ?vr5 ?vr6 ?vr7 ?vr8 ?vr9 ?vr10 ?vr11 ?vr12 ?vr13 ?vr14 ?vr15 ?vr16 ?vr17 ?vr18 ?vr19 ?vr20 ?vr21 ?vr22 ?vr23 ?vr24 ?vg5 ?vg2 ?vg3 ?vg4 ?vre9 ?vre34 ?vxb1 ?vxr2 ?vxr3 ?vxr4 ?vxr5 ?vxr6 ?vxr7 ?vxr8 ?vxv ?vxrel ?voc22 ?vob22 ?vrm22_0 ?vrm22_1 ?vrm22_2 ?vrm22_3 ?vrm22_4 ?vrm22_5 ?vrm22_6 ?vrm22_7 ?vz
    (case vr0 => refine' G.raw_mk ?a ?l ?c ?k; (case a => k_is); (case l => k_is); (case c => k_is); (case k => k_is))
    (case vr1 => refine' G.raw_mk ?a ?l ?c ?k; (case a => k_is); (case l => k_is); (case c => k_is); (case k => k_is))
    (case vr2 => refine' G.raw_mk ?a ?l ?c ?k; (case a => k_is); (case l => k_is); (case c => k_is); (case k => k_is))
    (case vr3 => refine' G.raw_mk ?a ?l ?c ?k; (case a => k_is); (case l => k_is); (case c => k_is); (case k => k_is))
    (case vr4 => refine' G.raw_mk ?a ?l ?c ?k; (case a => k_is); (case l => k_is); (case c => k_is); (case k => k_is))
    (case vr5 => refine' G.raw_mk ?a ?l ?c ?k; (case a => k_is); (case l => k_is); (case c => k_is); (case k => k_is))
    (case vr6 => refine' G.raw_mk ?a ?l ?c ?k; (case a => k_is); (case l => k_is); (case c => k_is); (case k => k_is))
    (case vr7 => refine' G.raw_mk ?a ?l ?c ?k; (case a => k_is); (case l => k_is); (case c => k_is); (case k => k_is))
    (case vr8 => refine' G.raw_mk ?a ?l ?c ?k; (case a => k_is); (case l => k_is); (case c => k_is); (case k => k_is))
    (case vr9 => refine' G.raw_mk ?a ?l ?c ?k; (case a => k_is); (case l => k_is); (case c => k_is); (case k => k_is))
    (case vr10 => refine' G.raw_mk ?a ?l ?c ?k; (case a => k_is); (case l => k_is); (case c => k_is); (case k => k_is))
    (case vr11 => refine' G.raw_mk ?a ?l ?c ?k; (case a => k_is); (case l => k_is); (case c => k_is); (case k => k_is))
    (case vr12 => refine' G.raw_mk ?a ?l ?c ?k; (case a => k_is); (case l => k_is); (case c => k_is); (case k => k_is))
    (case vr13 => refine' G.raw_mk ?a ?l ?c ?k; (case a => k_is); (case l => k_is); (case c => k_is); (case k => k_is))
    (case vr14 => refine' G.raw_mk ?a ?l ?c ?k; (case a => k_is); (case l => k_is); (case c => k_is); (case k => k_is))
    (case vr15 => refine' G.raw_mk ?a ?l ?c ?k; (case a => k_is); (case l => k_is); (case c => k_is); (case k => k_is))
    (case vr16 => refine' G.raw_mk ?a ?l ?c ?k; (case a => k_is); (case l => k_is); (case c => k_is); (case k => k_is))
    (case vr17 => refine' G.raw_mk ?a ?l ?c ?k; (case a => k_is); (case l => k_is); (case c => k_is); (case k => k_is))
    (case vr18 => refine' G.raw_mk ?a ?l ?c ?k; (case a => k_is); (case l => k_is); (case c => k_is); (case k => k_is))
    (case vr19 => refine' G.raw_mk ?a ?l ?c ?k; (case a => k_is); (case l => k_is); (case c => k_is); (case k => k_is))
    (case vr20 => refine' G.raw_mk ?a ?l ?c ?k; (case a => k_is); (case l => k_is); (case c => k_is); (case k => k_is))
    (case vr21 => refine' G.raw_mk ?a ?l ?c ?k; (case a => k_is); (case l => k_is); (case c => k_is); (case k => k_is))
    (case vr22 => refine' G.raw_mk ?a ?l ?c ?k; (case a => k_is); (case l => k_is); (case c => k_is); (case k => k_is))
    (case vr23 => refine' G.raw_mk ?a ?l ?c ?k; (case a => k_is); (case l => k_is); (case c => k_is); (case k => k_is))
    (case vr24 => refine' G.raw_mk ?a ?l ?c ?k; (case a => k_is); (case l => k_is); (case c => k_is); (case k => k_is))
    (case vg5 => refine' G.glob_int KX Gn ?a; (case a => k_is))
    (case vg2 => refine' G.glob_strs (ss := [":=", "<=", ">=", "==", "<", ">", "+", "-", "/", "(", ")", ",", "|", ":"]) KX Gn ?a ?l ?c ?d ?s ?z; (case a => k_is); (case l => k_is); (case c => rfl); (case d => rfl); (case s => rfl); (case z => decide))
    (case vg3 => refine' G.glob_str KX Gn ?a; (case a => k_is))
    (case vg4 => refine' G.glob_str KX Gn ?a; (case a => k_is))
    (case vre9 => refine' G.raw_mk ?a ?l ?c ?k; (case a => k_is); (case l => k_is); (case c => k_is); (case k => k_is))
    (case vre34 => refine' G.raw_mk ?a ?l ?c ?k; (case a => k_is); (case l => k_is); (case c => k_is); (case k => k_is))
    (case vxb1 => k_is)
    (case vxr2 => refine' G.rawX_mk ?a ?l ?i ?f ?x ?y ?d ?v ?e ?d2 ?r ?b; (case a => k_is); (case l => k_is); (case i => k_is); (case f => k_is); (case x => k_is); (case y => k_is); (case d => rfl); (case v => rfl); (case e => kernel_rfl); (case d2 => rfl); (case r => decide +kernel); (case b => kernel_rfl))
    (case vxr3 => refine' G.rawX_mk ?a ?l ?i ?f ?x ?y ?d ?v ?e ?d2 ?r ?b; (case a => k_is); (case l => k_is); (case i => k_is); (case f => k_is); (case x => k_is); (case y => k_is); (case d => rfl); (case v => rfl); (case e => kernel_rfl); (case d2 => rfl); (case r => decide +kernel); (case b => kernel_rfl))
    (case vxr4 => refine' G.rawX_mk ?a ?l ?i ?f ?x ?y ?d ?v ?e ?d2 ?r ?b; (case a => k_is); (case l => k_is); (case i => k_is); (case f => k_is); (case x => k_is); (case y => k_is); (case d => rfl); (case v => rfl); (case e => kernel_rfl); (case d2 => rfl); (case r => decide +kernel); (case b => kernel_rfl))
    (case vxr5 => refine' G.rawX_mk ?a ?l ?i ?f ?x ?y ?d ?v ?e ?d2 ?r ?b; (case a => k_is); (case l => k_is); (case i => k_is); (case f => k_is); (case x => k_is); (case y => k_is); (case d => rfl); (case v => rfl); (case e => kernel_rfl); (case d2 => rfl); (case r => decide +kernel); (case b => kernel_rfl))
    (case vxr6 => refine' G.rawX_mk ?a ?l ?i ?f ?x ?y ?d ?v ?e ?d2 ?r ?b; (case a => k_is); (case l => k_is); (case i => k_is); (case f => k_is); (case x => k_is); (case y => k_is); (case d => rfl); (case v => rfl); (case e => kernel_rfl); (case d2 => rfl); (case r => decide +kernel); (case b => kernel_rfl))
    (case vxr7 => refine' G.rawX_mk ?a ?l ?i ?f ?x ?y ?d ?v ?e ?d2 ?r ?b; (case a => k_is); (case l => k_is); (case i => k_is); (case f => k_is); (case x => k_is); (case y => k_is); (case d => rfl); (case v => rfl); (case e => kernel_rfl); (case d2 => rfl); (case r => decide +kernel); (case b => kernel_rfl))
    (case vxr8 => refine' G.rawX_mk ?a ?l ?i ?f ?x ?y ?d ?v ?e ?d2 ?r ?b; (case a => k_is); (case l => k_is); (case i => k_is); (case f => k_is); (case x => k_is); (case y => k_is); (case d => rfl); (case v => rfl); (case e => kernel_rfl); (case d2 => rfl); (case r => decide +kernel); (case b => kernel_rfl))
    (case vxv => k_is)
    (case vxrel => kernel_rfl)
    (case voc22 => k_is)
    (case vob22 => kernel_rfl)
    (case vrm22_0 => refine' G.rawM_mk ?a ?l ?c ?n ?k; (case a => k_is); (case l => k_is); (case c => k_is); (case n => k_is); (case k => k_is))
    (case vrm22_1 => refine' G.rawM_mk ?a ?l ?c ?n ?k; (case a => k_is); (case l => k_is); (case c => k_is); (case n => k_is); (case k => k_is))
    (case vrm22_2 => refine' G.rawM_mk ?a ?l ?c ?n ?k; (case a => k_is); (case l => k_is); (case c => k_is); (case n => k_is); (case k => k_is))
    (case vrm22_3 => refine' G.rawM_mk ?a ?l ?c ?n ?k; (case a => k_is); (case l => k_is); (case c => k_is); (case n => k_is); (case k => k_is))
    (case vrm22_4 => refine' G.rawM_mk ?a ?l ?c ?n ?k; (case a => k_is); (case l => k_is); (case c => k_is); (case n => k_is); (case k => k_is))
    (case vrm22_5 => refine' G.rawM_mk ?a ?l ?c ?n ?k; (case a => k_is); (case l => k_is); (case c => k_is); (case n => k_is); (case k => k_is))
    (case vrm22_6 => refine' G.rawM_mk ?a ?l ?c ?n ?k; (case a => k_is); (case l => k_is); (case c => k_is); (case n => k_is); (case k => k_is))
    (case vrm22_7 => refine' G.rawM_mk ?a ?l ?c ?n ?k; (case a => k_is); (case l => k_is); (case c => k_is); (case n => k_is); (case k => k_is))
    (case vz => refine' ⟨?_, ⟨?_, ⟨?_, ⟨?_, ⟨?_, ⟨?_, ⟨?_, ⟨?_, ⟨?_, ⟨?_, ⟨?_, ⟨?_, ⟨?_, ⟨?_, ⟨?_, ⟨?_, ⟨?_, ⟨?_, ⟨?_, ⟨?_, ⟨?_, ⟨?_, ⟨?_, ⟨?_, trivial⟩⟩⟩⟩⟩⟩⟩⟩⟩⟩⟩⟩⟩⟩⟩⟩⟩⟩⟩⟩⟩⟩⟩⟩ <;> k_is)
