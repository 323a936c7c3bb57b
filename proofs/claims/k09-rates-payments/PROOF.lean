import PyProof.Rows.All
import Wide.All
import OpenK.AllK
import Wide.FinOn
import HandS.ForMost
import HandS.Exc
import HandS.ExcOwn
import HandS.WordsExc
import HandS.Walk
import HandS.Wide
import HandS.TupAny
import HandS.IsInst
import HandS.Gcd
import HandS.Deep
import HandS.SortInts
import HandS.Defaults
import KE.DataFind
import KE.GoesMore
import KE.GoesEnum
import HandS.Iter
import HandS.HeadHook4
import HandS.HeadEnd
import HandS.Head3
import HandS.Dict
import HandS.RaiseMore
import PyProof.ReprRoads
import PyProof.ReprLen
import PyProof.Rows.RegStrFacts
import PySem.Challenge.RW_pursebyvotes_k09_whole_rates_and_payment
set_option Elab.async false
set_option linter.all false
set_option maxRecDepth 100000
set_option maxHeartbeats 0
-- part DLa
/-! DL: a data layer over HandS. What a slot holds is told as data (PyData); the heap is hidden: W.b holds what stands for good, W.r what a resource owns, the rest of the tracked heap are lists of one's own. -/
namespace DL
open PySem PySem.Spec PyProof.Rows L2
abbrev D := PyData

/-! ### data told by values -/
theorem sqL_mono {K : PySem.W.Frag} {H H' : Hp} {a : Addr} {xs : List V} (e : ∀ b o, H b = some o → H' b = some o) (h : SqL K H a xs) : SqL K H' a xs := by
  rcases h with (h | ⟨o, h⟩) | h
  · exact .inl (.inl (e _ _ h))
  · exact .inl (.inr ⟨o, e _ _ h⟩)
  · exact .inr h
theorem sqT_mono {K : PySem.W.Frag} {H H' : Hp} {a : Addr} {xs : List V} (e : ∀ b o, H b = some o → H' b = some o) (h : SqT K H a xs) : SqT K H' a xs := by
  rcases h with (h | ⟨o, h⟩) | h
  · exact .inl (.inl (e _ _ h))
  · exact .inl (.inr ⟨o, e _ _ h⟩)
  · exact .inr h
mutual
theorem dp_mono {K : PySem.W.Frag} {H H' : Hp} (e : ∀ b o, H b = some o → H' b = some o) : ∀ {v : V} {d : D}, Dp K H v d → Dp K H' v d
  | _, _, .non => .non
  | _, _, .bl b => .bl b
  | _, _, .int i => .int i
  | _, _, .str x => .str x
  | _, _, .lst h r => .lst (sqL_mono e h) (dpAll_mono e r)
  | _, _, .tup h r => .tup (sqT_mono e h) (dpAll_mono e r)
theorem dpAll_mono {K : PySem.W.Frag} {H H' : Hp} (e : ∀ b o, H b = some o → H' b = some o) : ∀ {vs : List V} {ds : List D}, DpAll K H vs ds → DpAll K H' vs ds
  | _, _, .nil => .nil
  | _, _, .cons h r => .cons (dp_mono e h) (dpAll_mono e r)
end
theorem dpAll_len {K : PySem.W.Frag} {H : Hp} : ∀ {vs : List V} {ds : List D}, DpAll K H vs ds → vs.length = ds.length
  | _, _, .nil => rfl
  | _, _, .cons _ r => by rw [List.length_cons, List.length_cons, dpAll_len r]
theorem dpAll_get {K : PySem.W.Frag} {H : Hp} : ∀ {vs : List V} {ds : List D} {i : Nat} {x : D}, DpAll K H vs ds → ds[i]? = some x → ∃ v, vs[i]? = some v ∧ Dp K H v x
  | _, _, _, _, .nil, e => by simp at e
  | _, _, 0, _, .cons h _, e => by simp at e; subst e; exact ⟨_, rfl, h⟩
  | _, _, i + 1, _, .cons _ r, e => by
    obtain ⟨v, h1, h2⟩ := dpAll_get (i := i) r (by simpa using e)
    exact ⟨v, by simpa using h1, h2⟩
theorem dpAll_append {K : PySem.W.Frag} {H : Hp} : ∀ {vs ws : List V} {ds es : List D}, DpAll K H vs ds → DpAll K H ws es → DpAll K H (vs ++ ws) (ds ++ es)
  | _, _, _, _, .nil, h => h
  | _, _, _, _, .cons h r, q => .cons h (dpAll_append r q)
theorem dpAll_drop {K : PySem.W.Frag} {H : Hp} : ∀ (n : Nat) {vs : List V} {ds : List D}, DpAll K H vs ds → DpAll K H (vs.drop n) (ds.drop n)
  | 0, _, _, h => h
  | _ + 1, _, _, .nil => .nil
  | n + 1, _, _, .cons _ r => dpAll_drop n r
theorem dpAll_take {K : PySem.W.Frag} {H : Hp} : ∀ (n : Nat) {vs : List V} {ds : List D}, DpAll K H vs ds → DpAll K H (vs.take n) (ds.take n)
  | 0, _, _, _ => .nil
  | _ + 1, _, _, .nil => .nil
  | n + 1, _, _, .cons h r => .cons h (dpAll_take n r)
theorem dpAll_ints {K : PySem.W.Frag} {H : Hp} : ∀ {vs : List V} {ns : List Int}, DpAll K H vs (ns.map PyData.int) → vs = ns.map V.int
  | _, [], .nil => rfl
  | _, n :: ns, .cons h r => by
    cases h
    rw [dpAll_ints r]; rfl
theorem dpAll_of_ints {K : PySem.W.Frag} {H : Hp} : ∀ (ns : List Int), DpAll K H (ns.map V.int) (ns.map PyData.int)
  | [] => .nil
  | n :: ns => .cons (.int n) (dpAll_of_ints ns)
theorem dpAll_strs {K : PySem.W.Frag} {H : Hp} : ∀ {vs : List V} {ns : List Str}, DpAll K H vs (ns.map PyData.str) → vs = ns.map V.str
  | _, [], .nil => rfl
  | _, n :: ns, .cons h r => by
    cases h
    rw [dpAll_strs r]; rfl

/-! ### worlds -/
/-- b: what stands for good; r: what the resource owns -/
structure Wd where
  b : Hp
  r : Hp
structure WOk (ρ : Hp → Prop) (W : Wd) (H : Hp) : Prop where
  bH : ∀ a o, W.b a = some o → H a = some o
  rH : ∀ a o, W.r a = some o → H a = some o
  dj : ∀ a o, W.b a = some o → W.r a = none
  res : ρ W.r
structure Step (W : Wd) (H : Hp) (W' : Wd) (H' : Hp) : Prop where
  b : ∀ a o, W.b a = some o → W'.b a = some o
  keep : ∀ a o, H a = some o → W.r a = none → H' a = some o
  nb : ∀ a o, H a = some o → W.b a = none → W'.b a = none
  nr : ∀ a o, H a = some o → W.r a = none → W'.r a = none
  th : ∀ a o, H a = some o → ∃ o', H' a = some o'
theorem Step.refl (W : Wd) (H : Hp) : Step W H W H := ⟨fun _ _ h => h, fun _ _ h _ => h, fun _ _ _ h => h, fun _ _ _ h => h, fun _ o h => ⟨o, h⟩⟩
theorem Step.trans {W W1 W2 : Wd} {H H1 H2 : Hp} (a : Step W H W1 H1) (b : Step W1 H1 W2 H2) : Step W H W2 H2 where
  b := fun x o h => b.b x o (a.b x o h)
  keep := fun x o h n => b.keep x o (a.keep x o h n) (a.nr x o h n)
  nb := fun x o h n => by
    obtain ⟨o', h'⟩ := a.th x o h
    exact b.nb x o' h' (a.nb x o h n)
  nr := fun x o h n => by
    obtain ⟨o', h'⟩ := a.th x o h
    exact b.nr x o' h' (a.nr x o h n)
  th := fun x o h => by
    obtain ⟨o', h'⟩ := a.th x o h
    exact b.th x o' h'
/-- a new object is laid for good -/
def Wd.put (W : Wd) (p : Addr) (o : HO) : Wd := ⟨upd W.b p o, W.r⟩
theorem WOk.put {ρ : Hp → Prop} {W : Wd} {H : Hp} {p : Addr} {o : HO} (w : WOk ρ W H) (hp : H p = none) : WOk ρ (W.put p o) (upd H p o) where
  bH := fun a u h => by
    by_cases e : a = p
    · subst e
      have h' : upd W.b a o a = some u := h
      rw [upd_same] at h' ⊢
      exact h'
    · have h' : upd W.b p o a = some u := h
      rw [upd_ne e] at h' ⊢
      exact w.bH a u h'
  rH := fun a u h => by
    have e : a ≠ p := fun z => by
      have := w.rH a u h
      rw [z, hp] at this
      cases this
    rw [upd_ne e]
    exact w.rH a u h
  dj := fun a u h => by
    by_cases e : a = p
    · subst e
      show W.r a = none
      cases q : W.r a with
      | none => rfl
      | some x =>
        have := w.rH a x q
        rw [hp] at this
        cases this
    · have h' : upd W.b p o a = some u := h
      rw [upd_ne e] at h'
      exact w.dj a u h'
  res := w.res
theorem Step.put {W : Wd} {H : Hp} {p : Addr} {o : HO} (hb : ∀ a o, W.b a = some o → H a = some o) (hp : H p = none) : Step W H (W.put p o) (upd H p o) where
  b := fun a u h => by
    have e : a ≠ p := fun z => by
      have := hb a u h
      rw [z, hp] at this
      cases this
    show upd W.b p o a = some u
    rw [upd_ne e]
    exact h
  keep := fun a u h _ => by
    rw [upd_ne (ne_of_none h hp)]
    exact h
  nb := fun a u h n => by
    show upd W.b p o a = none
    rw [upd_ne (ne_of_none h hp)]
    exact n
  nr := fun _ _ _ n => n
  th := fun a u h => ⟨u, by rw [upd_ne (ne_of_none h hp)]; exact h⟩
/-- a new object is laid, of one's own -/
theorem WOk.lay {ρ : Hp → Prop} {W : Wd} {H : Hp} {p : Addr} {o : HO} (w : WOk ρ W H) (hp : W.b p = none) (hr : W.r p = none) : WOk ρ W (upd H p o) where
  bH := fun a u h => by
    rw [upd_ne (fun z => by rw [z, hp] at h; cases h)]
    exact w.bH a u h
  rH := fun a u h => by
    rw [upd_ne (fun z => by rw [z, hr] at h; cases h)]
    exact w.rH a u h
  dj := w.dj
  res := w.res
theorem Step.lay {W : Wd} {H : Hp} {p : Addr} {o : HO} (hp : H p = none) : Step W H W (upd H p o) where
  b := fun _ _ h => h
  keep := fun a u h _ => by
    rw [upd_ne (ne_of_none h hp)]
    exact h
  nb := fun _ _ _ n => n
  nr := fun _ _ _ n => n
  th := fun a u h => ⟨u, by rw [upd_ne (ne_of_none h hp)]; exact h⟩
theorem WOk.free {ρ : Hp → Prop} {W : Wd} {H : Hp} {p : Addr} (w : WOk ρ W H) (hp : H p = none) : W.b p = none ∧ W.r p = none := by
  refine ⟨?_, ?_⟩
  · cases q : W.b p with
    | none => rfl
    | some x =>
      have := w.bH p x q
      rw [hp] at this
      cases this
  · cases q : W.r p with
    | none => rfl
    | some x =>
      have := w.rH p x q
      rw [hp] at this
      cases this

/-! ### slots -/
inductive S where
  /-- data that stand for good -/
  | d (x : D)
  /-- a very value -/
  | v (x : V)
  /-- a list of one's own -/
  | own (p : Addr) (xs : List D)
  /-- a dict that stands for good -/
  | dic (kvs : List (Key × D))
/-- a dict's entries as data -/
inductive KvAll (K : PySem.W.Frag) (H : Hp) : List (Key × V) → List (Key × D) → Prop
  | nil : KvAll K H [] []
  | cons {k : Key} {v : V} {x : D} {vs : List (Key × V)} {xs : List (Key × D)} : Dp K H v x → KvAll K H vs xs → KvAll K H ((k, v) :: vs) ((k, x) :: xs)
theorem kv_mono {K : PySem.W.Frag} {H H' : Hp} (e : ∀ b o, H b = some o → H' b = some o) : ∀ {vs : List (Key × V)} {xs : List (Key × D)}, KvAll K H vs xs → KvAll K H' vs xs
  | _, _, .nil => .nil
  | _, _, .cons h r => .cons (dp_mono e h) (kv_mono e r)
def dicAt (K : PySem.W.Frag) (B : Hp) (kvs : List (Key × D)) (v : V) : Prop := ∃ a vs, v = .ref a ∧ B a = some (.dK vs) ∧ KvAll K B vs kvs
theorem dicAt.mono {K : PySem.W.Frag} {B B' : Hp} {kvs : List (Key × D)} {v : V} (h : dicAt K B kvs v) (e : ∀ b o, B b = some o → B' b = some o) : dicAt K B' kvs v := by
  obtain ⟨a, vs, h1, h2, h3⟩ := h
  exact ⟨a, vs, h1, e _ _ h2, kv_mono e h3⟩
abbrev Sl := List (Option S)
def SOk (K : PySem.W.Frag) (W : Wd) (H : Hp) : S → V → Prop
  | .d x, v => Dp K W.b v x
  | .v x, v => v = x
  | .own p xs, v => v = .ref p ∧ ∃ vs, H p = some (.lst vs) ∧ W.b p = none ∧ W.r p = none ∧ DpAll K W.b vs xs
  | .dic kvs, v => dicAt K W.b kvs v
theorem SOk.step {K : PySem.W.Frag} {W W' : Wd} {H H' : Hp} (st : Step W H W' H') : ∀ {s : S} {v : V}, SOk K W H s v → SOk K W' H' s v
  | .d _, _, h => dp_mono st.b h
  | .v _, _, h => h
  | .own p _, _, ⟨e, vs, h, hb, hr, r⟩ => ⟨e, vs, st.keep p _ h hr, st.nb p _ h hb, st.nr p _ h hr, dpAll_mono st.b r⟩
  | .dic _, _, h => h.mono st.b

/-- an exception: its class, its field -/
structure XD where
  c : Addr
  f : Option (Str × D) := none
def XRel (K : PySem.W.Frag) (W : Wd) (H : Hp) (x : XD) (cls : Value) (d : Option Addr) : Prop :=
  cls = .ref x.c ∧ match x.f with
    | none => d = none
    | some (f, y) => ∃ dd v, d = some dd ∧ H dd = some (.xd [(f, v)]) ∧ Dp K W.b v y

/-- what stays through a def's body: the context, the resource, the entry, what is wanted of an exception -/
structure DC where
  X : Cx
  ρ : Hp → Prop
  W0 : Wd
  H0 : Hp
  Ed : XD → Prop
  EX : XK
structure DC.Ok (C : DC) : Prop where
  tk : Takes C.X (fun cls d _ H => C.EX cls d H)
  lk : ∀ (x : XD) cls d W H, C.Ed x → WOk C.ρ W H → Step C.W0 C.H0 W H → XRel C.X.K W H x cls d → C.EX cls d H

structure Sat (C : DC) (δ : Sl) (σ : L2.St) (W : Wd) (H : Hp) : Prop where
  ok : WOk C.ρ W H
  step : Step C.W0 C.H0 W H
  sl : ∀ (i : Nat) (s : S), δ[i]? = some (some s) → ∃ v, σ[i]? = some (some v) ∧ SOk C.X.K W H s v
  ap : ∀ (i j : Nat) (p : Addr) (xs ys : List D), δ[i]? = some (some (.own p xs)) → δ[j]? = some (some (.own p ys)) → i = j
  new : ∀ (i : Nat) (p : Addr) (xs : List D), δ[i]? = some (some (.own p xs)) → C.H0 p = none
  len : δ.length = σ.length
theorem Sat.go {C : DC} {δ : Sl} {σ : L2.St} {W W' : Wd} {H H' : Hp} (h : Sat C δ σ W H) (w : WOk C.ρ W' H') (st : Step W H W' H') : Sat C δ σ W' H' where
  ok := w
  step := h.step.trans st
  sl := fun i s e => by
    obtain ⟨v, e1, e2⟩ := h.sl i s e
    exact ⟨v, e1, e2.step st⟩
  ap := h.ap
  new := h.new
  len := h.len

/-! ### judgements -/
abbrev TV := Sl → (D → Prop) → Prop
abbrev TD := Sl → (S → Prop) → Prop
abbrev TB := Sl → (Bool → Prop) → Prop
abbrev TAr := Sl → (List S → Prop) → Prop
/-- a new list of one's own is new -/
def Fresh (H : Hp) (s : S) : Prop := ∀ p xs, s = .own p xs → H p = none
/-- an expression that gives data -/
def DV (C : DC) (e : Expr) (t : TV) : Prop := ∃ tv : TE, PE C.X e tv ∧ ∀ δ σ W H (Q : D → Prop) (QV : VK), Sat C δ σ W H → t δ Q →
  (∀ v W' H' x, Sat C δ σ W' H' → Step W H W' H' → Dp C.X.K W'.b v x → Q x → QV v H') → tv σ H QV
/-- .. that gives anything -/
def DE (C : DC) (e : Expr) (t : TD) : Prop := ∃ tv : TE, PE C.X e tv ∧ ∀ δ σ W H (Q : S → Prop) (QV : VK), Sat C δ σ W H → t δ Q →
  (∀ v W' H' s, Sat C δ σ W' H' → Step W H W' H' → SOk C.X.K W' H' s v → Fresh H s → Q s → QV v H') → tv σ H QV
/-- a test -/
def DT (C : DC) (e : Expr) (t : TB) : Prop := ∃ tv : TT, PT C.X e tv ∧ ∀ δ σ W H (Q : Bool → Prop) (QV : Bool → Hp → Prop), Sat C δ σ W H → t δ Q →
  (∀ b W' H', Sat C δ σ W' H' → Step W H W' H' → Q b → QV b H') → tv σ H QV
/-- and, or -/
def DW (C : DC) (e : Expr) (t : TB) : Prop := ∃ tv : TT, PW C.X e tv ∧ ∀ δ σ W H (Q : Bool → Prop) (QV : Bool → Hp → Prop), Sat C δ σ W H → t δ Q →
  (∀ b W' H', Sat C δ σ W' H' → Step W H W' H' → Q b → QV b H') → tv σ H QV
inductive All2 (K : PySem.W.Frag) (W : Wd) (H : Hp) : List S → List V → Prop
  | nil : All2 K W H [] []
  | cons {s : S} {v : V} {ss : List S} {vs : List V} : SOk K W H s v → All2 K W H ss vs → All2 K W H (s :: ss) (v :: vs)
theorem All2.step {K : PySem.W.Frag} {W W' : Wd} {H H' : Hp} (st : Step W H W' H') : ∀ {ss : List S} {vs : List V}, All2 K W H ss vs → All2 K W' H' ss vs
  | _, _, .nil => .nil
  | _, _, .cons h r => .cons (h.step st) (All2.step st r)
theorem All2.len {K : PySem.W.Frag} {W : Wd} {H : Hp} : ∀ {ss : List S} {vs : List V}, All2 K W H ss vs → vs.length = ss.length
  | _, _, .nil => rfl
  | _, _, .cons _ r => by rw [List.length_cons, List.length_cons, All2.len r]
theorem All2.data {K : PySem.W.Frag} {W : Wd} {H : Hp} : ∀ {xs : List D} {vs : List V}, All2 K W H (xs.map S.d) vs → DpAll K W.b vs xs
  | [], _, .nil => .nil
  | _ :: _, _, .cons h r => .cons h (All2.data r)
theorem All2.of {K : PySem.W.Frag} {W : Wd} {H : Hp} : ∀ {xs : List D} {vs : List V}, DpAll K W.b vs xs → All2 K W H (xs.map S.d) vs
  | _, _, .nil => .nil
  | _, _, .cons h r => .cons h (All2.of r)
/-- arguments -/
def DA (C : DC) (es : List Expr) (t : TAr) : Prop := ∃ tv : TA, PA C.X es tv ∧ ∀ δ σ W H (Q : List S → Prop) (QV : List V → Hp → Prop), Sat C δ σ W H → t δ Q →
  (∀ vs W' H' ss, Sat C δ σ W' H' → Step W H W' H' → All2 C.X.K W' H' ss vs → Q ss → QV vs H') → tv σ H QV
/-- what is wanted behind a statement -/
structure EndsD where
  nx : Sl → Prop
  rt : S → Prop
  bk : Sl → Prop := fun _ => False
  ct : Sl → Prop := fun _ => False
abbrev TSD := EndsD → Sl → Prop
/-- what stood for good still does -/
def BLe (W W' : Wd) : Prop := ∀ a o, W.b a = some o → W'.b a = some o
theorem BLe.refl (W : Wd) : BLe W W := fun _ _ h => h
theorem BLe.trans {W W1 W2 : Wd} (a : BLe W W1) (b : BLe W1 W2) : BLe W W2 := fun x o h => b x o (a x o h)
/-- the wish as HandS has it, from the world W on -/
structure EndsOk (C : DC) (Ws : Wd) (D : EndsD) (DV : Ends) : Prop where
  nx : ∀ δ σ W H, Sat C δ σ W H → BLe Ws W → D.nx δ → DV.nx σ H
  rt : ∀ s v W H, WOk C.ρ W H → Step C.W0 C.H0 W H → SOk C.X.K W H s v → Fresh C.H0 s → D.rt s → DV.rt v H
  bk : ∀ δ σ W H, Sat C δ σ W H → BLe Ws W → D.bk δ → DV.bk σ H
  ct : ∀ δ σ W H, Sat C δ σ W H → BLe Ws W → D.ct δ → DV.ct σ H
theorem EndsOk.on {C : DC} {Ws W' : Wd} {D : EndsD} {DV : Ends} (h : EndsOk C Ws D DV) (b : BLe Ws W') : EndsOk C W' D DV :=
  ⟨fun δ σ W H s l q => h.nx δ σ W H s (b.trans l) q, h.rt, fun δ σ W H s l q => h.bk δ σ W H s (b.trans l) q, fun δ σ W H s l q => h.ct δ σ W H s (b.trans l) q⟩
def DS (C : DC) (st : Stmt) (t : TSD) : Prop := ∃ ts : TS, PS C.X st ts ∧ ∀ δ σ W H (D : EndsD) (DV : Ends), Sat C δ σ W H → t D δ → EndsOk C W D DV → ts DV σ H
def DSs (C : DC) (st : List Stmt) (t : TSD) : Prop := ∃ ts : TS, PSs C.X st ts ∧ ∀ δ σ W H (D : EndsD) (DV : Ends), Sat C δ σ W H → t D δ → EndsOk C W D DV → ts DV σ H
end DL

-- part DLb
namespace DL
open PySem PySem.Spec PyProof.Rows L2
section
variable {C : DC} {a b c e : Expr} {ta tb tc : TV} {pos p : Pos}

/-! ### names, constants -/
def tvVar (i : Nat) : TV := fun δ Q => ∃ x, δ[i]? = some (some (.d x)) ∧ Q x
def tdVar (i : Nat) : TD := fun δ Q => ∃ x, δ[i]? = some (some (.v x)) ∧ Q (.v x)
def tvC (x : D) : TV := fun _ Q => Q x
theorem dv_of_pe {e : Expr} {i : Nat} (h : PE C.X e (tVar i)) : DV C e (tvVar i) := ⟨_, h, fun δ σ W H Q QV sat ⟨x, e1, q⟩ k => by
  obtain ⟨v, e2, e3⟩ := sat.sl i _ e1
  exact ⟨v, e2, k v W H x sat (Step.refl W H) e3 q⟩⟩
theorem de_of_pe {e : Expr} {i : Nat} (h : PE C.X e (tVar i)) : DE C e (tdVar i) := ⟨_, h, fun δ σ W H Q QV sat ⟨x, e1, q⟩ k => by
  obtain ⟨v, e2, e3⟩ := sat.sl i _ e1
  have e4 : v = x := e3
  exact ⟨v, e2, k v W H (.v x) sat (Step.refl W H) e4 (fun _ _ z => nomatch z) q⟩⟩
theorem vv (i : Nat) {x : Str} {pos : Pos} (hN : C.X.N[i]? = some x := by rfl) (hv : Vis C.X.env.scope x := by first | exact Or.inl rfl | exact Or.inr (Or.inl rfl) | exact Or.inr (Or.inr rfl)) (hd : (x == ("__debug__" : Str)) = false := by decide)
    (hcd : (x == ("__classdict__" : Str)) = false := by decide) : DV C (.Name x pos) (tvVar i) := dv_of_pe (pe_var hN hv hd hcd)
theorem rv (i : Nat) {x : Str} {pos : Pos} (hN : C.X.N[i]? = some x := by rfl) (hv : Vis C.X.env.scope x := by first | exact Or.inl rfl | exact Or.inr (Or.inl rfl) | exact Or.inr (Or.inr rfl)) (hd : (x == ("__debug__" : Str)) = false := by decide)
    (hcd : (x == ("__classdict__" : Str)) = false := by decide) : DE C (.Name x pos) (tdVar i) := de_of_pe (pe_var hN hv hd hcd)
theorem dv_const {v : V} {x : D} (h : PE C.X e (tC v)) (r : ∀ H : Hp, Dp C.X.K H v x) : DV C e (tvC x) := ⟨_, h, fun δ σ W H Q QV sat q k => k v W H x sat (Step.refl W H) (r _) q⟩
theorem dv_int {i j pos} : DV C (.Constant (.int i) j pos) (tvC (.int i)) := dv_const pe_int fun _ => .int i
theorem dv_bl {b j pos} : DV C (.Constant (.bool b) j pos) (tvC (.bool b)) := dv_const pe_bl fun _ => .bl b
theorem dv_non {j pos} : DV C (.Constant .none j pos) (tvC .none) := dv_const pe_non fun _ => .non
theorem dv_str {x j pos} : DV C (.Constant (.str x) j pos) (tvC (.str x)) := dv_const pe_str fun _ => .str x
/-- a module's constant -/
theorem dv_glob {x : Str} {v : V} {u : Value} {y : D} {pos : Pos} (hg : Gl C.X x) (hm : C.X.mg x = some u) (r : RelV v u) (h : ∀ H : Hp, Dp C.X.K H v y) (hd : (x == ("__debug__" : Str)) = false := by decide) : DV C (.Name x pos) (tvC y) := dv_const (pe_glob hg hm r hd) h
theorem dv_globI {x : Str} {i : Int} {pos : Pos} (hm : ∃ t, C.X.mg x = some (.int i t)) (hg : Gl C.X x := by rfl) (hd : (x == ("__debug__" : Str)) = false := by decide) : DV C (.Name x pos) (tvC (.int i)) := by
  obtain ⟨t, hm⟩ := hm
  exact dv_glob (v := .int i) hg hm ⟨t, rfl⟩ (fun _ => .int i) hd
theorem dv_globS {x z : Str} {pos : Pos} (hm : ∃ t, C.X.mg x = some (.str z t)) (hg : Gl C.X x := by rfl) (hd : (x == ("__debug__" : Str)) = false := by decide) : DV C (.Name x pos) (tvC (.str z)) := by
  obtain ⟨t, hm⟩ := hm
  exact dv_glob (v := .str z) hg hm ⟨t, rfl⟩ (fun _ => .str z) hd
theorem dv_globT {x : Str} {g : Addr} {y : D} {pos : Pos} (hm : C.X.mg x = some (.ref g)) (h : ∀ H : Hp, Dp C.X.K H (.ref g) y) (hg : Gl C.X x := by rfl) (hd : (x == ("__debug__" : Str)) = false := by decide) : DV C (.Name x pos) (tvC y) := dv_glob (v := .ref g) hg hm rfl h hd

/-! ### data as anything, a list of one's own as data -/
def toD (t : TV) : TD := fun δ Q => t δ fun x => Q (.d x)
theorem de_dv (h : DV C e ta) : DE C e (toD ta) := by
  obtain ⟨tv, h1, h2⟩ := h
  refine ⟨tv, h1, fun δ σ W H Q QV sat q k => h2 δ σ W H _ QV sat q fun v W' H' x s1 st r q => ?_⟩
  exact k v W' H' (.d x) s1 st r (fun _ _ z => nomatch z) q
/-- a list of one's own, given away for good -/
theorem Sat.give {C : DC} {δ : Sl} {σ : L2.St} {W W' : Wd} {H H' : Hp} {p : Addr} {vs : List V} {xs : List D} (h : Sat C δ σ W' H') (st : Step W H W' H') (hp : H p = none)
    (hH : H' p = some (.lst vs)) (hb : W'.b p = none) (hr : W'.r p = none) (r : DpAll C.X.K W'.b vs xs) (hσ : ∀ (i : Nat) (ys : List D), δ[i]? ≠ some (some (S.own p ys))) (h0 : C.H0 p = none) :
    ∃ W2, Sat C δ σ W2 H' ∧ Step W H W2 H' ∧ Dp C.X.K W2.b (.ref p) (.list xs) := by
  have mono : ∀ b o, W'.b b = some o → (W'.put p (.lst vs)).b b = some o := fun b o e => by
    show upd W'.b p _ b = some o
    rw [upd_ne (fun z => by rw [z, hb] at e; cases e)]
    exact e
  have stp : ∀ {Wa : Wd} {Ha : Hp}, Step Wa Ha W' H' → Ha p = none → Step Wa Ha (W'.put p (.lst vs)) H' := fun {Wa Ha} s1 hn =>
    ⟨fun b o e => mono b o (s1.b b o e), s1.keep, fun b o e n => by
      show upd W'.b p _ b = none
      rw [upd_ne (fun z => by rw [z, hn] at e; cases e)]
      exact s1.nb b o e n, s1.nr, s1.th⟩
  refine ⟨W'.put p (.lst vs), ⟨⟨fun b o e => ?_, h.ok.rH, fun b o e => ?_, h.ok.res⟩, stp h.step h0, fun i s e => ?_, h.ap, h.new, h.len⟩, stp st hp, ?_⟩
  · by_cases z : b = p
    · have e' : upd W'.b p (.lst vs) b = some o := e
      rw [z, upd_same] at e'
      rw [z, hH]
      exact e'
    · have e' : upd W'.b p (.lst vs) b = some o := e
      rw [upd_ne z] at e'
      exact h.ok.bH b o e'
  · by_cases z : b = p
    · rw [z]
      exact hr
    · have e' : upd W'.b p (.lst vs) b = some o := e
      rw [upd_ne z] at e'
      exact h.ok.dj b o e'
  · obtain ⟨v, e1, e2⟩ := h.sl i s e
    refine ⟨v, e1, ?_⟩
    cases s with
    | d x => exact dp_mono mono e2
    | v x => exact e2
    | dic kvs => exact dicAt.mono e2 mono
    | own p2 ys =>
      obtain ⟨ev, vs2, h1, h2, h3, h4⟩ := e2
      have np : p2 ≠ p := fun z => hσ i ys (by rw [e, z])
      exact ⟨ev, vs2, h1, by show upd W'.b p _ p2 = none; rw [upd_ne np]; exact h2, h3, dpAll_mono mono h4⟩
  · refine .lst (.inl (.inl ?_)) (dpAll_mono mono r)
    exact upd_same
/-- what has just come is apart from the slots -/
theorem Sat.apart {C : DC} {δ : Sl} {σ : L2.St} {W : Wd} {H : Hp} (h : Sat C δ σ W H) {p : Addr} (hp : H p = none) : ∀ (i : Nat) (ys : List D), δ[i]? ≠ some (some (S.own p ys)) := fun i ys e => by
  obtain ⟨v, e1, ev, vs, h1, _⟩ := h.sl i _ e
  rw [hp] at h1
  cases h1
theorem Sat.entry {C : DC} {δ : Sl} {σ : L2.St} {W : Wd} {H : Hp} (h : Sat C δ σ W H) {p : Addr} (hp : H p = none) : C.H0 p = none := by
  cases q : C.H0 p with
  | none => rfl
  | some o =>
    obtain ⟨o', e⟩ := h.step.th p o q
    rw [hp] at e
    cases e
/-- frozen: a list of one's own becomes data -/
def frz (t : TD) : TV := fun δ Q => t δ fun s => match s with
  | .d x => Q x
  | .own _ xs => Q (.list xs)
  | .v _ => False
  | .dic _ => False
theorem dv_frz {t : TD} (h : DE C e t) : DV C e (frz t) := by
  obtain ⟨tv, h1, h2⟩ := h
  refine ⟨tv, h1, fun δ σ W H Q QV sat q k => h2 δ σ W H _ QV sat q fun v W' H' s s1 st r f q => ?_⟩
  cases s with
  | d x => exact k v W' H' x s1 st r q
  | v x => exact q.elim
  | dic kvs => exact q.elim
  | own p xs =>
    obtain ⟨rfl, vs, hH, hb, hr, rr⟩ := r
    have hp := f p xs rfl
    obtain ⟨W2, s2, st2, r2⟩ := s1.give st hp hH hb hr rr (sat.apart hp) (sat.entry hp)
    exact k _ W2 H' (.list xs) s2 st2 r2 q

/-! ### two operands -/
def DOp (C : DC) (r : R2) (d : D → D → (D → Prop) → Prop) : Prop := ∀ (x y : V) (dx dy : D) (W : Wd) (H : Hp) (Q : D → Prop) (QV : VK), WOk C.ρ W H → Dp C.X.K W.b x dx → Dp C.X.K W.b y dy → d dx dy Q →
  (∀ v W' H' z, WOk C.ρ W' H' → Step W H W' H' → Dp C.X.K W'.b v z → Q z → QV v H') → r x y H QV
def tv2 (d : D → D → (D → Prop) → Prop) (ta tb : TV) : TV := fun δ Q => ta δ fun x => tb δ fun y => d x y Q
theorem lift2 {r : R2} {d : D → D → (D → Prop) → Prop} (hd : DOp C r d) {tva tvb : TE} (la : ∀ δ σ W H (Q : D → Prop) (QV : VK), Sat C δ σ W H → ta δ Q → (∀ v W' H' x, Sat C δ σ W' H' → Step W H W' H' → Dp C.X.K W'.b v x → Q x → QV v H') → tva σ H QV)
    (lb : ∀ δ σ W H (Q : D → Prop) (QV : VK), Sat C δ σ W H → tb δ Q → (∀ v W' H' x, Sat C δ σ W' H' → Step W H W' H' → Dp C.X.K W'.b v x → Q x → QV v H') → tvb σ H QV) :
    ∀ δ σ W H (Q : D → Prop) (QV : VK), Sat C δ σ W H → tv2 d ta tb δ Q → (∀ v W' H' x, Sat C δ σ W' H' → Step W H W' H' → Dp C.X.K W'.b v x → Q x → QV v H') → tOp r tva tvb σ H QV := fun δ σ W H Q QV sat q k => by
  refine la δ σ W H _ _ sat q fun v W1 H1 x s1 st1 r1 q1 => ?_
  refine lb δ σ W1 H1 _ _ s1 q1 fun u W2 H2 y s2 st2 r2 q2 => ?_
  refine hd v u x y W2 H2 Q QV s2.ok (dp_mono st2.b r1) r2 q2 fun w W3 H3 z w3 st3 r3 q3 => ?_
  exact k w W3 H3 z (s2.go w3 st3) ((st1.trans st2).trans st3) r3 q3
theorem dv_op {op : Operator} {r : R2} {d : D → D → (D → Prop) → Prop} (ho : OpR C.X (binaryOp op) r) (hd : DOp C r d) (ha : DV C a ta) (hb : DV C b tb) : DV C (.BinOp a op b pos) (tv2 d ta tb) := by
  obtain ⟨tva, pa, la⟩ := ha
  obtain ⟨tvb, pb, lb⟩ := hb
  exact ⟨_, pe_op ho pa pb, lift2 hd la lb⟩
theorem dv_cmp {op : CmpOp} {r : R2} {d : D → D → (D → Prop) → Prop} (ho : OpR C.X (compareOp op) r) (hd : DOp C r d) (ha : DV C a ta) (hb : DV C b tb) (hm : behindInMarks op b = false) : DV C (.Compare a [op] [b] pos) (tv2 d ta tb) := by
  obtain ⟨tva, pa, la⟩ := ha
  obtain ⟨tvb, pb, lb⟩ := hb
  exact ⟨_, pe_cmpR ho pa pb hm, lift2 hd la lb⟩
/-- a comparison as a test: its answer is a truth -/
def tbOf (t : TV) : TB := fun δ Q => t δ fun x => ∃ k, x = .bool k ∧ Q k
theorem dt_cmp {op : CmpOp} {r : R2} {d : D → D → (D → Prop) → Prop} (ho : OpR C.X (compareOp op) r) (hd : DOp C r d) (ha : DV C a ta) (hb : DV C b tb) (hm : behindInMarks op b = false) : DT C (.Compare a [op] [b] pos) (tbOf (tv2 d ta tb)) := by
  obtain ⟨tva, pa, la⟩ := ha
  obtain ⟨tvb, pb, lb⟩ := hb
  refine ⟨_, pt_cmpR ho pa pb hm, fun δ σ W H Q QV sat q k => ?_⟩
  refine lift2 hd la lb δ σ W H _ _ sat q fun v W' H' x s1 st r ⟨b, e, q⟩ => ?_
  subst e
  cases r
  exact ⟨b, rfl, k b W' H' s1 st q⟩
/-- data that are a truth, as a test -/
theorem dt_val (h : DV C e ta) (he : ∀ whole, isTrue e C.X.env whole = (do let v ← whole; standAt e.pos; holding [v] (truthy v)) := by intro _; rfl) : DT C e (tbOf ta) := by
  obtain ⟨tv, h1, h2⟩ := h
  refine ⟨_, pt_val h1 he, fun δ σ W H Q QV sat q k => ?_⟩
  refine h2 δ σ W H _ _ sat q fun v W' H' x s1 st r ⟨b, e, q⟩ => ?_
  subst e
  cases r
  exact ⟨b, rfl, k b W' H' s1 st q⟩

/-! ### numbers -/
def dI (P : Int → Int → Prop) (f : Int → Int → Int) : D → D → (D → Prop) → Prop := fun x y Q => match x, y with
  | .int i, .int j => P i j ∧ Q (.int (f i j))
  | _, _ => False
theorem dop_I {P : Int → Int → Prop} {f : Int → Int → Int} : DOp C (rI P fun i j => .int (f i j)) (dI P f) := fun x y dx dy W H Q QV w rx ry q k => by
  cases rx <;> cases ry <;> first | exact False.elim q | skip
  exact ⟨_, _, rfl, rfl, q.1, k _ W H _ w (Step.refl W H) (.int _) q.2⟩
def dAdd : D → D → (D → Prop) → Prop := fun x y Q => match x, y with
  | .int i, .int j => Q (.int (i + j))
  | .str x, .str y => x.length + y.length ≤ sizeLine ∧ Q (.str (x ++ y))
  | .tuple xs, .tuple ys => xs.length + ys.length ≤ sizeLine ∧ Q (.tuple (xs ++ ys))
  | _, _ => False
def rAddA (K : PySem.W.Frag) : R2 := fun x y H Q => (rI0 fun i j => .int (i + j)) x y H Q ∨ (∃ i j, x = .str i ∧ y = .str j ∧ i.length + j.length ≤ sizeLine ∧ Q (.str (i ++ j)) H) ∨ rCatA K x y H Q
theorem op_addA : OpR C.X (binaryOp .Add) (rAddA C.X.K) := op_add.or (op_add_str.or op_catA)
theorem put_tup {W : Wd} {H : Hp} {p : Addr} {vs : List V} {xs : List D} (w : WOk C.ρ W H) (hp : H p = none) (r : DpAll C.X.K W.b vs xs) : Dp C.X.K (W.put p (.tup vs)).b (.ref p) (.tuple xs) := by
  refine .tup (.inl (.inl upd_same)) (dpAll_mono (fun b o e => ?_) r)
  show upd W.b p _ b = some o
  rw [upd_ne (fun z => by have := w.bH b o e; rw [z, hp] at this; cases this)]
  exact e
theorem dop_add : DOp C (rAddA C.X.K) dAdd := fun x y dx dy W H Q QV w rx ry q k => by
  cases rx <;> cases ry <;> first | exact False.elim q | skip
  · exact .inl ⟨_, _, rfl, rfl, k _ W H _ w (Step.refl W H) (.int _) q⟩
  · exact .inr (.inl ⟨_, _, rfl, rfl, q.1, k _ W H _ w (Step.refl W H) (.str _) q.2⟩)
  · rename_i a1 vs1 ds1 h1 r1 a2 vs2 ds2 h2 r2
    have g1 := sqT_mono w.bH h1
    have g2 := sqT_mono w.bH h2
    refine .inr (.inr ⟨a1, a2, vs1, vs2, rfl, rfl, g1, g2, by rw [dpAll_len r1, dpAll_len r2]; exact q.1, fun e => ?_, fun _ e => ?_, fun _ _ p hp => ?_⟩)
    · subst e
      cases r1
      exact k _ W H _ w (Step.refl W H) (.tup h2 r2) (by simpa using q.2)
    · subst e
      cases r2
      exact k _ W H _ w (Step.refl W H) (.tup h1 r1) (by simpa using q.2)
    · exact k _ _ _ _ (w.put hp) (Step.put w.bH hp) (put_tup w hp (dpAll_append r1 r2)) q.2
theorem dv_add (ha : DV C a ta) (hb : DV C b tb) : DV C (.BinOp a .Add b pos) (tv2 dAdd ta tb) := dv_op op_addA dop_add ha hb
theorem dop_I0 {f : Int → Int → Int} : DOp C (rI0 fun i j => .int (f i j)) (dI (fun _ _ => True) f) := fun x y dx dy W H Q QV w rx ry q k => by
  cases rx <;> cases ry <;> first | exact False.elim q | skip
  exact ⟨_, _, rfl, rfl, k _ W H _ w (Step.refl W H) (.int _) q.2⟩
def dSub : D → D → (D → Prop) → Prop := dI (fun _ _ => True) fun i j => i - j
theorem dv_sub (ha : DV C a ta) (hb : DV C b tb) : DV C (.BinOp a .Sub b pos) (tv2 dSub ta tb) := dv_op op_sub dop_I0 ha hb
def dMul : D → D → (D → Prop) → Prop := dI IntMulOk fun i j => i * j
theorem op_mulO : OpR C.X (binaryOp .Mult) (rI IntMulOk fun i j => .int (i * j)) := opI fun _ _ _ _ _ _ _ hc q => mul_int q hc
theorem dv_mul (ha : DV C a ta) (hb : DV C b tb) : DV C (.BinOp a .Mult b pos) (tv2 dMul ta tb) := dv_op op_mulO dop_I ha hb
def dDiv : D → D → (D → Prop) → Prop := dI CDivW fun i j => i / j
theorem dv_div (ha : DV C a ta) (hb : DV C b tb) : DV C (.BinOp a .FloorDiv b pos) (tv2 dDiv ta tb) := dv_op op_fdivW dop_I ha hb
/-- // by any divisor but 0, below 2 ^ 9000 in size -/
def CDivA (_ j : Int) : Prop := j ≠ 0 ∧ j.natAbs.log2 < 9000
theorem op_fdivA : OpR C.X (binaryOp .FloorDiv) (rI CDivA fun i j => .int (i.fdiv j)) := opI fun i j _ _ _ _ _ hc q => by
  exact floordiv_int hc.1 q (.inl (PyProof.noPylong_of_log2 hc.2))
def dDivA : D → D → (D → Prop) → Prop := dI CDivA fun i j => i.fdiv j
theorem dv_divA (ha : DV C a ta) (hb : DV C b tb) : DV C (.BinOp a .FloorDiv b pos) (tv2 dDivA ta tb) := dv_op op_fdivA dop_I ha hb
def dMod : D → D → (D → Prop) → Prop := dI (fun _ j => 0 < j) fun i j => i % j
theorem dv_mod (ha : DV C a ta) (hb : DV C b tb) : DV C (.BinOp a .Mod b pos) (tv2 dMod ta tb) := dv_op op_mod dop_I ha hb
def dPow : D → D → (D → Prop) → Prop := dI CPow fun i j => i ^ j.toNat
theorem dv_pow (ha : DV C a ta) (hb : DV C b tb) : DV C (.BinOp a .Pow b pos) (tv2 dPow ta tb) := dv_op op_pow dop_I ha hb
def dNeg : TV → TV := fun ta δ Q => ta δ fun x => match x with
  | .int i => Q (.int (-i))
  | _ => False
theorem dv_neg (ha : DV C a ta) : DV C (.UnaryOp .USub a pos) (dNeg ta) := by
  obtain ⟨tva, pa, la⟩ := ha
  refine ⟨_, pe_un un_neg pa, fun δ σ W H Q QV sat q k => la δ σ W H _ _ sat q fun v W1 H1 x s1 st1 r1 q1 => ?_⟩
  cases r1 <;> first | exact False.elim q1 | skip
  exact ⟨_, rfl, k _ W1 H1 _ s1 st1 (.int _) q1⟩

/-! ### comparisons -/
def dCmp (f : Int → Int → Bool) : D → D → (D → Prop) → Prop := fun x y Q => match x, y with
  | .int i, .int j => Q (.bool (f i j))
  | _, _ => False
theorem dop_cmp {f : Int → Int → Bool} : DOp C (rI0 fun i j => .bl (f i j)) (dCmp f) := fun x y dx dy W H Q QV w rx ry q k => by
  cases rx <;> cases ry <;> first | exact False.elim q | skip
  exact ⟨_, _, rfl, rfl, k _ W H _ w (Step.refl W H) (.bl _) q⟩
abbrev dLt := dCmp fun i j => decide (i < j)
abbrev dLe := dCmp fun i j => decide (i ≤ j)
abbrev dGt := dCmp fun i j => decide (j < i)
abbrev dGe := dCmp fun i j => decide (j ≤ i)
theorem dv_lt (ha : DV C a ta) (hb : DV C b tb) : DV C (.Compare a [.Lt] [b] pos) (tv2 dLt ta tb) := dv_cmp op_lt dop_cmp ha hb (nomark _)
theorem dv_le (ha : DV C a ta) (hb : DV C b tb) : DV C (.Compare a [.LtE] [b] pos) (tv2 dLe ta tb) := dv_cmp op_le dop_cmp ha hb (nomark _)
theorem dv_gt (ha : DV C a ta) (hb : DV C b tb) : DV C (.Compare a [.Gt] [b] pos) (tv2 dGt ta tb) := dv_cmp op_gt dop_cmp ha hb (nomark _)
theorem dv_ge (ha : DV C a ta) (hb : DV C b tb) : DV C (.Compare a [.GtE] [b] pos) (tv2 dGe ta tb) := dv_cmp op_ge dop_cmp ha hb (nomark _)
theorem dt_lt (ha : DV C a ta) (hb : DV C b tb) : DT C (.Compare a [.Lt] [b] pos) (tbOf (tv2 dLt ta tb)) := dt_cmp op_lt dop_cmp ha hb (nomark _)
theorem dt_le (ha : DV C a ta) (hb : DV C b tb) : DT C (.Compare a [.LtE] [b] pos) (tbOf (tv2 dLe ta tb)) := dt_cmp op_le dop_cmp ha hb (nomark _)
theorem dt_gt (ha : DV C a ta) (hb : DV C b tb) : DT C (.Compare a [.Gt] [b] pos) (tbOf (tv2 dGt ta tb)) := dt_cmp op_gt dop_cmp ha hb (nomark _)
theorem dt_ge (ha : DV C a ta) (hb : DV C b tb) : DT C (.Compare a [.GtE] [b] pos) (tbOf (tv2 dGe ta tb)) := dt_cmp op_ge dop_cmp ha hb (nomark _)
/-- == of any data -/
def dEq : D → D → (D → Prop) → Prop := fun x y Q => SeqAt.shaped x = true ∧ SeqAt.shaped y = true ∧ Q (.bool (PyData.eqv x y))
def dNe : D → D → (D → Prop) → Prop := fun x y Q => SeqAt.shaped x = true ∧ SeqAt.shaped y = true ∧ Q (.bool (!PyData.eqv x y))
theorem dop_eq : DOp C (rEqD C.X.K) dEq := fun x y dx dy W H Q QV w rx ry q k => ⟨dx, dy, dp_mono w.bH rx, dp_mono w.bH ry, q.1, q.2.1, k _ W H _ w (Step.refl W H) (.bl _) q.2.2⟩
theorem dop_ne : DOp C (rNeD C.X.K) dNe := fun x y dx dy W H Q QV w rx ry q k => ⟨dx, dy, dp_mono w.bH rx, dp_mono w.bH ry, q.1, q.2.1, k _ W H _ w (Step.refl W H) (.bl _) q.2.2⟩
theorem dv_eq {n : Nat} (hr : Room n C.X.A) (ha : DV C a ta) (hb : DV C b tb) : DV C (.Compare a [.Eq] [b] pos) (tv2 dEq ta tb) := dv_cmp (op_eqD hr.units) dop_eq ha hb (nomark _)
theorem dv_ne {n : Nat} (hr : Room n C.X.A) (ha : DV C a ta) (hb : DV C b tb) : DV C (.Compare a [.NotEq] [b] pos) (tv2 dNe ta tb) := dv_cmp (op_neD hr.units) dop_ne ha hb (nomark _)
theorem dt_eq {n : Nat} (hr : Room n C.X.A) (ha : DV C a ta) (hb : DV C b tb) : DT C (.Compare a [.Eq] [b] pos) (tbOf (tv2 dEq ta tb)) := dt_cmp (op_eqD hr.units) dop_eq ha hb (nomark _)
theorem dt_ne {n : Nat} (hr : Room n C.X.A) (ha : DV C a ta) (hb : DV C b tb) : DT C (.Compare a [.NotEq] [b] pos) (tbOf (tv2 dNe ta tb)) := dt_cmp (op_neD hr.units) dop_ne ha hb (nomark _)
/-- is None -/
def isNone : D → Bool
  | .none => true
  | _ => false
theorem dp_none {K : PySem.W.Frag} {H : Hp} {v : V} {x : D} (h : Dp K H v x) : decide (v = .non) = isNone x := by cases h <;> rfl
def dIsN : D → D → (D → Prop) → Prop := fun x y Q => y = .none ∧ Q (.bool (isNone x))
def dNotN : D → D → (D → Prop) → Prop := fun x y Q => y = .none ∧ Q (.bool (!isNone x))
theorem dop_isN : DOp C (fun x y H Q => y = .non ∧ Q (.bl (decide (x = .non))) H) dIsN := fun x y dx dy W H Q QV w rx ry q k => by
  obtain ⟨e, q⟩ := q
  subst e
  cases ry
  exact ⟨rfl, k _ W H _ w (Step.refl W H) (by rw [dp_none rx]; exact .bl _) q⟩
theorem dop_notN : DOp C (fun x y H Q => y = .non ∧ Q (.bl (!decide (x = .non))) H) dNotN := fun x y dx dy W H Q QV w rx ry q k => by
  obtain ⟨e, q⟩ := q
  subst e
  cases ry
  exact ⟨rfl, k _ W H _ w (Step.refl W H) (by rw [dp_none rx]; exact .bl _) q⟩
theorem dv_isN (ha : DV C a ta) (hb : DV C b tb) : DV C (.Compare a [.Is] [b] pos) (tv2 dIsN ta tb) := dv_cmp op_isN dop_isN ha hb (nomark _)
theorem dv_notN (ha : DV C a ta) (hb : DV C b tb) : DV C (.Compare a [.IsNot] [b] pos) (tv2 dNotN ta tb) := dv_cmp op_notN dop_notN ha hb (nomark _)
theorem dt_isN (ha : DV C a ta) (hb : DV C b tb) : DT C (.Compare a [.Is] [b] pos) (tbOf (tv2 dIsN ta tb)) := dt_cmp op_isN dop_isN ha hb (nomark _)
theorem dt_notN (ha : DV C a ta) (hb : DV C b tb) : DT C (.Compare a [.IsNot] [b] pos) (tbOf (tv2 dNotN ta tb)) := dt_cmp op_notN dop_notN ha hb (nomark _)

/-! ### and, or, not, if -/
variable {t u : TB} {rest : List Expr}
def tbAnd (t u : TB) : TB := fun δ Q => t δ fun c => if c = true then u δ Q else Q false
def tbOr (t u : TB) : TB := fun δ Q => t δ fun c => if c = true then Q true else u δ Q
def tbNot (t : TB) : TB := fun δ Q => t δ fun c => Q (!c)
theorem dw_and1 (ha : DT C a t) : DW C (.BoolOp .And [a] pos) t := by
  obtain ⟨tv, h1, h2⟩ := ha
  exact ⟨tv, pw_and1 h1, h2⟩
theorem dw_or1 (ha : DT C a t) : DW C (.BoolOp .Or [a] pos) t := by
  obtain ⟨tv, h1, h2⟩ := ha
  exact ⟨tv, pw_or1 h1, h2⟩
theorem dw_and (ha : DT C a t) (hb : DW C (.BoolOp .And (b :: rest) pos) u) : DW C (.BoolOp .And (a :: b :: rest) pos) (tbAnd t u) := by
  obtain ⟨tv, h1, h2⟩ := ha
  obtain ⟨tw, g1, g2⟩ := hb
  refine ⟨_, pw_and h1 g1, fun δ σ W H Q QV sat q k => h2 δ σ W H _ _ sat q fun c W1 H1 s1 st1 q1 => ?_⟩
  cases c with
  | true => exact g2 δ σ W1 H1 Q QV s1 q1 fun c W2 H2 s2 st2 q2 => k c W2 H2 s2 (st1.trans st2) q2
  | false => exact k false W1 H1 s1 st1 q1
theorem dw_or (ha : DT C a t) (hb : DW C (.BoolOp .Or (b :: rest) pos) u) : DW C (.BoolOp .Or (a :: b :: rest) pos) (tbOr t u) := by
  obtain ⟨tv, h1, h2⟩ := ha
  obtain ⟨tw, g1, g2⟩ := hb
  refine ⟨_, pw_or h1 g1, fun δ σ W H Q QV sat q k => h2 δ σ W H _ _ sat q fun c W1 H1 s1 st1 q1 => ?_⟩
  cases c with
  | false => exact g2 δ σ W1 H1 Q QV s1 q1 fun c W2 H2 s2 st2 q2 => k c W2 H2 s2 (st1.trans st2) q2
  | true => exact k true W1 H1 s1 st1 q1
theorem dt_w (h : DW C e t) : DT C e t := by
  obtain ⟨tv, h1, h2⟩ := h
  exact ⟨tv, h1.pt, h2⟩
theorem dt_not (ha : DT C a t) : DT C (.UnaryOp .Not a pos) (tbNot t) := by
  obtain ⟨tv, h1, h2⟩ := ha
  exact ⟨_, pt_not h1, fun δ σ W H Q QV sat q k => h2 δ σ W H _ _ sat q fun c W1 H1 s1 st1 q1 => k (!c) W1 H1 s1 st1 q1⟩
/-- as values -/
def tvAnd (ta tb : TV) : TV := fun δ Q => ta δ fun x => ∃ c, x = .bool c ∧ if c = true then tb δ Q else Q (.bool false)
def tvOr (ta tb : TV) : TV := fun δ Q => ta δ fun x => ∃ c, x = .bool c ∧ if c = true then Q (.bool true) else tb δ Q
def tvNot (ta : TV) : TV := fun δ Q => ta δ fun x => ∃ c, x = .bool c ∧ Q (.bool (!c))
theorem dv_one {op} (h : DV C a ta) : DV C (.BoolOp op [a] pos) ta := by
  obtain ⟨tv, h1, h2⟩ := h
  exact ⟨tv, pe_one h1, h2⟩
theorem dv_and (ha : DV C a ta) (hb : DV C (.BoolOp .And (b :: rest) pos) tb) : DV C (.BoolOp .And (a :: b :: rest) pos) (tvAnd ta tb) := by
  obtain ⟨tv, h1, h2⟩ := ha
  obtain ⟨tw, g1, g2⟩ := hb
  refine ⟨_, pe_and h1 g1, fun δ σ W H Q QV sat q k => h2 δ σ W H _ _ sat q fun v W1 H1 x s1 st1 r1 ⟨c, e, q1⟩ => ?_⟩
  subst e
  cases r1
  refine ⟨c, rfl, ?_⟩
  cases c with
  | true => exact g2 δ σ W1 H1 Q QV s1 q1 fun c W2 H2 x s2 st2 r2 q2 => k c W2 H2 x s2 (st1.trans st2) r2 q2
  | false => exact k _ W1 H1 _ s1 st1 (.bl false) q1
theorem dv_or (ha : DV C a ta) (hb : DV C (.BoolOp .Or (b :: rest) pos) tb) : DV C (.BoolOp .Or (a :: b :: rest) pos) (tvOr ta tb) := by
  obtain ⟨tv, h1, h2⟩ := ha
  obtain ⟨tw, g1, g2⟩ := hb
  refine ⟨_, pe_or h1 g1, fun δ σ W H Q QV sat q k => h2 δ σ W H _ _ sat q fun v W1 H1 x s1 st1 r1 ⟨c, e, q1⟩ => ?_⟩
  subst e
  cases r1
  refine ⟨c, rfl, ?_⟩
  cases c with
  | false => exact g2 δ σ W1 H1 Q QV s1 q1 fun c W2 H2 x s2 st2 r2 q2 => k c W2 H2 x s2 (st1.trans st2) r2 q2
  | true => exact k _ W1 H1 _ s1 st1 (.bl true) q1
theorem dv_not (ha : DV C a ta) : DV C (.UnaryOp .Not a pos) (tvNot ta) := by
  obtain ⟨tv, h1, h2⟩ := ha
  refine ⟨_, pe_not h1, fun δ σ W H Q QV sat q k => h2 δ σ W H _ _ sat q fun v W1 H1 x s1 st1 r1 ⟨c, e, q1⟩ => ?_⟩
  subst e
  cases r1
  exact ⟨c, rfl, k _ W1 H1 _ s1 st1 (.bl _) q1⟩
def tvIf (t : TB) (ta tb : TV) : TV := fun δ Q => t δ fun c => if c = true then ta δ Q else tb δ Q
theorem dv_if (hc : DT C c t) (ha : DV C a ta) (hb : DV C b tb) : DV C (.IfExp c a b pos) (tvIf t ta tb) := by
  obtain ⟨tv, h1, h2⟩ := hc
  obtain ⟨tw, g1, g2⟩ := ha
  obtain ⟨tx, f1, f2⟩ := hb
  refine ⟨_, pe_ifExp h1 g1 f1, fun δ σ W H Q QV sat q k => h2 δ σ W H _ _ sat q fun d W1 H1 s1 st1 q1 => ?_⟩
  cases d with
  | true => exact g2 δ σ W1 H1 Q QV s1 q1 fun c W2 H2 x s2 st2 r2 q2 => k c W2 H2 x s2 (st1.trans st2) r2 q2
  | false => exact f2 δ σ W1 H1 Q QV s1 q1 fun c W2 H2 x s2 st2 r2 q2 => k c W2 H2 x s2 (st1.trans st2) r2 q2
end
end DL

-- part DLc
namespace DL
open PySem PySem.Spec PyProof.Rows L2
section
variable {C : DC} {a b c e : Expr} {es : List Expr} {ta tb tc : TV} {td : TD} {tr : TAr} {pos p : Pos}

/-! ### arguments, displays -/
def arNil : TAr := fun _ Q => Q []
def arCons (t : TD) (r : TAr) : TAr := fun δ Q => t δ fun s => (match s with
  | .own _ _ => False
  | _ => True) ∧ r δ fun ss => Q (s :: ss)
theorem da_nil : DA C [] arNil := ⟨_, pa_nil, fun δ σ W H Q QV sat q k => k [] W H [] sat (Step.refl W H) .nil q⟩
theorem da_cons (ha : DE C e td) (hr : DA C es tr) (hs : starEach (e :: es) C.X.env = (false, eval e C.X.env) :: starEach es C.X.env := by rfl) : DA C (e :: es) (arCons td tr) := by
  obtain ⟨tv, h1, h2⟩ := ha
  obtain ⟨tw, g1, g2⟩ := hr
  refine ⟨_, pa_cons h1 g1 hs, fun δ σ W H Q QV sat q k => h2 δ σ W H _ _ sat q fun v W1 H1 s s1 st1 r1 f1 q1 => ?_⟩
  refine g2 δ σ W1 H1 _ _ s1 q1.2 fun vs W2 H2 ss s2 st2 r2 q2 => ?_
  exact k (v :: vs) W2 H2 (s :: ss) s2 (st1.trans st2) (.cons (r1.step st2) r2) q2
/-- an argument of data -/
theorem da_d (ha : DV C e ta) (hr : DA C es tr) (hs : starEach (e :: es) C.X.env = (false, eval e C.X.env) :: starEach es C.X.env := by rfl) : DA C (e :: es) (arCons (toD ta) tr) := da_cons (de_dv ha) hr hs
/-- all data -/
def allD : List S → Option (List D)
  | [] => some []
  | .d x :: r => (allD r).map (x :: ·)
  | _ :: _ => none
theorem allD_dp {K : PySem.W.Frag} {W : Wd} {H : Hp} : ∀ {ss : List S} {xs : List D} {vs : List V}, allD ss = some xs → All2 K W H ss vs → DpAll K W.b vs xs
  | [], xs, _, h, .nil => by cases h; exact .nil
  | .d x :: r, xs, _, h, .cons h1 h2 => by
    cases e : allD r with
    | none => rw [allD, e] at h; cases h
    | some ys =>
      rw [allD, e] at h
      cases h
      exact .cons h1 (allD_dp e h2)
def tvTup (t : TAr) : TV := fun δ Q => t δ fun ss => ∃ xs, allD ss = some xs ∧ xs.length ≤ sizeLine ∧ Q (.tuple xs)
def tdLst (t : TAr) : TD := fun δ Q => t δ fun ss => ∃ xs, allD ss = some xs ∧ xs.length ≤ sizeLine ∧ ∀ p, Q (.own p xs)
theorem dv_tup {x1} (h : DA C es tr) : DV C (.Tuple es x1 pos) (tvTup tr) := by
  obtain ⟨tv, h1, h2⟩ := h
  refine ⟨_, pe_tup h1, fun δ σ W H Q QV sat q k => h2 δ σ W H _ _ sat q fun vs W1 H1 ss s1 st1 r1 ⟨xs, e, hz, q1⟩ => ?_⟩
  have r := allD_dp e r1
  refine ⟨by rw [dpAll_len r]; exact hz, fun p hp => ?_⟩
  have st := Step.put (o := .tup vs) s1.ok.bH hp
  exact k _ _ _ _ (s1.go (s1.ok.put hp) st) (st1.trans st) (put_tup s1.ok hp r) q1
/-- a new list of one's own has come -/
theorem fin_lst {δ : Sl} {σ : L2.St} {W W1 : Wd} {H H1 : Hp} {p : Addr} {vs : List V} {xs : List D} {Q : S → Prop} {QV : VK} (s1 : Sat C δ σ W1 H1) (st1 : Step W H W1 H1) (hp : H1 p = none) (r : DpAll C.X.K W1.b vs xs) (q : Q (.own p xs))
    (k : ∀ v W' H' s, Sat C δ σ W' H' → Step W H W' H' → SOk C.X.K W' H' s v → Fresh H s → Q s → QV v H') : QV (.ref p) (upd H1 p (.lst vs)) := by
  obtain ⟨f1, f2⟩ := s1.ok.free hp
  have st := Step.lay (W := W1) (o := HO.lst vs) hp
  refine k _ _ _ (S.own p xs) (s1.go (s1.ok.lay f1 f2) st) (st1.trans st) ⟨rfl, vs, upd_same, f1, f2, r⟩ (fun z ys e => ?_) q
  cases e
  cases h : H p with
  | none => rfl
  | some o =>
    obtain ⟨o', h'⟩ := st1.th p o h
    rw [hp] at h'
    cases h'
theorem de_lst (h : DA C es tr) : DE C (.List es pos) (tdLst tr) := by
  obtain ⟨tv, h1, h2⟩ := h
  refine ⟨_, pe_lst h1, fun δ σ W H Q QV sat q k => h2 δ σ W H _ _ sat q fun vs W1 H1 ss s1 st1 r1 ⟨xs, e, hz, q1⟩ => ?_⟩
  have r := allD_dp e r1
  exact ⟨by rw [dpAll_len r]; exact hz, fun p hp => fin_lst s1 st1 hp r (q1 p) k⟩

/-! ### calls of built-ins -/
def DCall (C : DC) (r : List V → Hp → VK → Prop) (d : List S → (S → Prop) → Prop) : Prop := ∀ (vs : List V) (ss : List S) (δ : Sl) (σ : L2.St) (W : Wd) (H : Hp) (Q : S → Prop) (QV : VK), Sat C δ σ W H → All2 C.X.K W H ss vs → d ss Q →
  (∀ v W' H' s, Sat C δ σ W' H' → Step W H W' H' → SOk C.X.K W' H' s v → Fresh H s → Q s → QV v H') → r vs H QV
def tdB (d : List S → (S → Prop) → Prop) (t : TAr) : TD := fun δ Q => t δ fun ss => d ss Q
theorem liftB {r : List V → Hp → VK → Prop} {d : List S → (S → Prop) → Prop} (hd : DCall C r d) {tva : TA} (la : ∀ δ σ W H (Q : List S → Prop) (QV : List V → Hp → Prop), Sat C δ σ W H → tr δ Q → (∀ vs W' H' ss, Sat C δ σ W' H' → Step W H W' H' → All2 C.X.K W' H' ss vs → Q ss → QV vs H') → tva σ H QV) :
    ∀ δ σ W H (Q : S → Prop) (QV : VK), Sat C δ σ W H → tdB d tr δ Q → (∀ v W' H' s, Sat C δ σ W' H' → Step W H W' H' → SOk C.X.K W' H' s v → Fresh H s → Q s → QV v H') → tCB r tva σ H QV := fun δ σ W H Q QV sat q k => by
  refine la δ σ W H _ _ sat q fun vs W1 H1 ss s1 st1 r1 q1 => ?_
  refine hd vs ss δ σ W1 H1 Q QV s1 r1 q1 fun v W2 H2 s s2 st2 r2 f2 q2 => ?_
  refine k v W2 H2 s s2 (st1.trans st2) r2 (fun z xs e => ?_) q2
  cases h : H z with
  | none => rfl
  | some o =>
    obtain ⟨o', h'⟩ := st1.th z o h
    rw [f2 z xs e] at h'
    cases h'
theorem de_callB {id : String} {x : Str} {r : List V → Hp → VK → Prop} {d : List S → (S → Prop) → Prop} (hc : CallR C.X (.builtin id) r) (hd : DCall C r d) (hg : Gl C.X x) (hm : C.X.mg x = none) (hv : bootBuiltins x = some (.builtin id)) (ha : DA C (e :: es) tr)
    (hn : x ≠ "__name__" := by decide) (hdb : (x == ("__debug__" : Str)) = false := by decide) (he : starEach (e :: es) C.X.env = (false, eval e C.X.env) :: starEach es C.X.env := by rfl) (hpl : (backTo pos (starEach es C.X.env)).any (·.1) = false := by rfl) :
    DE C (.Call (.Name x p) (e :: es) [] pos) (tdB d tr) := by
  obtain ⟨tv, h1, h2⟩ := ha
  exact ⟨_, pe_callB hc hg hm hv h1 hn hdb he hpl, liftB hd h2⟩
theorem de_callTy {T : String} {x : Str} {r : List V → Hp → VK → Prop} {d : List S → (S → Prop) → Prop} (hc : CallR C.X (.type T) r) (hd : DCall C r d) (hg : Gl C.X x) (hm : C.X.mg x = none) (hv : bootBuiltins x = some (.type T)) (ha : DA C (e :: es) tr)
    (hn : x ≠ "__name__" := by decide) (hdb : (x == ("__debug__" : Str)) = false := by decide) (he : starEach (e :: es) C.X.env = (false, eval e C.X.env) :: starEach es C.X.env := by rfl) (hpl : (backTo pos (starEach es C.X.env)).any (·.1) = false := by rfl) :
    DE C (.Call (.Name x p) (e :: es) [] pos) (tdB d tr) := by
  obtain ⟨tv, h1, h2⟩ := ha
  exact ⟨_, pe_callTy hc hg hm hv h1 hn hdb he hpl, liftB hd h2⟩
theorem de_callBfun {id : String} {x : Str} {r : List V → Hp → VK → Prop} {d : List S → (S → Prop) → Prop} (hc : CallR C.X (.builtin id) r) (hd : DCall C r d) (hg : Gl C.X x) (hm : C.X.mg x = some (.builtin id)) (ha : DA C (e :: es) tr)
    (hdb : (x == ("__debug__" : Str)) = false := by decide) (he : starEach (e :: es) C.X.env = (false, eval e C.X.env) :: starEach es C.X.env := by rfl) (hpl : (backTo pos (starEach es C.X.env)).any (·.1) = false := by rfl) :
    DE C (.Call (.Name x p) (e :: es) [] pos) (tdB d tr) := by
  obtain ⟨tv, h1, h2⟩ := ha
  exact ⟨_, pe_callBfun hc hg hm h1 hdb he hpl, liftB hd h2⟩
/-- data back, no change of the heap -/
theorem fin_same {δ : Sl} {σ : L2.St} {W : Wd} {H : Hp} {v : V} {x : D} {Q : S → Prop} {QV : VK} (s1 : Sat C δ σ W H) (r : Dp C.X.K W.b v x) (q : Q (.d x))
    (k : ∀ v W' H' s, Sat C δ σ W' H' → Step W H W' H' → SOk C.X.K W' H' s v → Fresh H s → Q s → QV v H') : QV v H := k v W H (.d x) s1 (Step.refl W H) r (fun _ _ z => nomatch z) q
theorem fin_tup {δ : Sl} {σ : L2.St} {W : Wd} {H : Hp} {vs : List V} {xs : List D} {p : Addr} {Q : S → Prop} {QV : VK} (s1 : Sat C δ σ W H) (hp : H p = none) (r : DpAll C.X.K W.b vs xs) (q : Q (.d (.tuple xs)))
    (k : ∀ v W' H' s, Sat C δ σ W' H' → Step W H W' H' → SOk C.X.K W' H' s v → Fresh H s → Q s → QV v H') : QV (.ref p) (upd H p (.tup vs)) := by
  have st := Step.put (o := HO.tup vs) s1.ok.bH hp
  exact k _ _ _ (.d _) (s1.go (s1.ok.put hp) st) st (put_tup s1.ok hp r) (fun _ _ z => nomatch z) q
/-- len -/
def lenD : D → Option Nat
  | .list xs => some xs.length
  | .tuple xs => some xs.length
  | .str x => if x.length ≤ sizeLine then some x.length else none
  | _ => none
def dLen : List S → (S → Prop) → Prop := fun ss Q => ∃ x n, ss = [.d x] ∧ lenD x = some n ∧ Q (.d (.int (n : Nat)))
theorem all2_one {K : PySem.W.Frag} {W : Wd} {H : Hp} {s : S} {vs : List V} (h : All2 K W H [s] vs) : ∃ v, vs = [v] ∧ SOk K W H s v := by
  cases h with
  | cons h1 h2 => cases h2; exact ⟨_, rfl, h1⟩
theorem all2_two {K : PySem.W.Frag} {W : Wd} {H : Hp} {s t : S} {vs : List V} (h : All2 K W H [s, t] vs) : ∃ v u, vs = [v, u] ∧ SOk K W H s v ∧ SOk K W H t u := by
  cases h with
  | cons h1 h2 =>
    cases h2 with
    | cons h3 h4 => cases h4; exact ⟨_, _, rfl, h1, h3⟩
theorem dcall_len : DCall C (fun xs H Q => ∃ x n, xs = [x] ∧ LenV C.X.K x H n ∧ Q (.int n) H) dLen := fun vs ss δ σ W H Q QV sat r ⟨x, n, e, hl, q⟩ k => by
  subst e
  obtain ⟨v, rfl, r1⟩ := all2_one r
  have r1 : Dp C.X.K W.b v x := r1
  refine ⟨v, n, rfl, ?_, fin_same sat (.int _) q k⟩
  cases r1 with
  | non => cases hl
  | bl b => cases hl
  | int i => cases hl
  | str y =>
    unfold lenD at hl
    by_cases h : y.length ≤ sizeLine
    · simp only [h, if_true, Option.some.injEq] at hl
      exact ⟨h, hl.symm⟩
    · simp [h] at hl
  | lst h h2 => cases hl; exact .inl ⟨_, sqL_mono sat.ok.bH h, (dpAll_len h2).symm⟩
  | tup h h2 => cases hl; exact .inr ⟨_, sqT_mono sat.ok.bH h, (dpAll_len h2).symm⟩
theorem de_len (hm : C.X.mg "len" = none) (ha : DA C (e :: es) tr) (hg : Gl C.X "len" := by rfl) (he : starEach (e :: es) C.X.env = (false, eval e C.X.env) :: starEach es C.X.env := by rfl) (hpl : (backTo pos (starEach es C.X.env)).any (·.1) = false := by rfl) :
    DE C (.Call (.Name "len" p) (e :: es) [] pos) (tdB dLen tr) := de_callB call_len dcall_len hg hm PySem.boot_len ha (by decide) (by decide) he hpl
/-- sum of ints -/
def dSum : List S → (S → Prop) → Prop := fun ss Q => ∃ ns : List Int, ss = [.d (.list (ns.map PyData.int))] ∧ Q (.d (.int ns.sum))
theorem dp_list_inv {K : PySem.W.Frag} {H : Hp} {v : V} {xs : List D} (h : Dp K H v (.list xs)) : ∃ a vs, v = .ref a ∧ SqL K H a vs ∧ DpAll K H vs xs := by
  cases h with
  | lst h r => exact ⟨_, _, rfl, h, r⟩
theorem dp_tup_inv {K : PySem.W.Frag} {H : Hp} {v : V} {xs : List D} (h : Dp K H v (.tuple xs)) : ∃ a vs, v = .ref a ∧ SqT K H a vs ∧ DpAll K H vs xs := by
  cases h with
  | tup h r => exact ⟨_, _, rfl, h, r⟩
theorem dp_ints_inv {K : PySem.W.Frag} {H : Hp} {v : V} {ns : List Int} (h : Dp K H v (.list (ns.map PyData.int))) : ∃ a, v = .ref a ∧ SqL K H a (ns.map V.int) := by
  obtain ⟨a, vs, e, h1, h2⟩ := dp_list_inv h
  rw [dpAll_ints h2] at h1
  exact ⟨a, e, h1⟩
theorem dcall_sum : DCall C (rSum C.X.K) dSum := fun vs ss δ σ W H Q QV sat r ⟨ns, e, q⟩ k => by
  subst e
  obtain ⟨v, rfl, r1⟩ := all2_one r
  obtain ⟨a, rfl, h⟩ := dp_ints_inv (show Dp C.X.K W.b v (.list (ns.map PyData.int)) from r1)
  exact ⟨a, ns, rfl, sqL_mono sat.ok.bH h, fin_same sat (.int _) q k⟩
/-- max, min of ints -/
def dMaxL : List S → (S → Prop) → Prop := fun ss Q => ∃ ns : List Int, ss = [.d (.list (ns.map PyData.int))] ∧ ns ≠ [] ∧ ∀ m, m ∈ ns → (∀ y, y ∈ ns → y ≤ m) → Q (.d (.int m))
def dMinL : List S → (S → Prop) → Prop := fun ss Q => ∃ ns : List Int, ss = [.d (.list (ns.map PyData.int))] ∧ ns ≠ [] ∧ ∀ m, m ∈ ns → (∀ y, y ∈ ns → m ≤ y) → Q (.d (.int m))
theorem dcall_max : DCall C (rMax C.X.K) dMaxL := fun vs ss δ σ W H Q QV sat r ⟨ns, e, hne, q⟩ k => by
  subst e
  obtain ⟨v, rfl, r1⟩ := all2_one r
  obtain ⟨a, rfl, h⟩ := dp_ints_inv (show Dp C.X.K W.b v (.list (ns.map PyData.int)) from r1)
  exact ⟨a, ns, rfl, sqL_mono sat.ok.bH h, List.length_pos_iff.mpr hne, fun m h1 h2 => fin_same sat (.int _) (q m h1 h2) k⟩
theorem dcall_min : DCall C (rMin C.X.K) dMinL := fun vs ss δ σ W H Q QV sat r ⟨ns, e, hne, q⟩ k => by
  subst e
  obtain ⟨v, rfl, r1⟩ := all2_one r
  obtain ⟨a, rfl, h⟩ := dp_ints_inv (show Dp C.X.K W.b v (.list (ns.map PyData.int)) from r1)
  exact ⟨a, ns, rfl, sqL_mono sat.ok.bH h, List.length_pos_iff.mpr hne, fun m h1 h2 => fin_same sat (.int _) (q m h1 h2) k⟩
def dMax2 : List S → (S → Prop) → Prop := fun ss Q => ∃ i j : Int, ss = [.d (.int i), .d (.int j)] ∧ Q (.d (.int (if j > i then j else i)))
def dMin2 : List S → (S → Prop) → Prop := fun ss Q => ∃ i j : Int, ss = [.d (.int i), .d (.int j)] ∧ Q (.d (.int (if j < i then j else i)))
theorem dcall_max2 : DCall C (fun xs H Q => ∃ i j, xs = [.int i, .int j] ∧ Q (.int (if j > i then j else i)) H) dMax2 := fun vs ss δ σ W H Q QV sat r ⟨i, j, e, q⟩ k => by
  subst e
  obtain ⟨v, u, rfl, r1, r2⟩ := all2_two r
  cases r1
  cases r2
  exact ⟨i, j, rfl, fin_same sat (.int _) q k⟩
theorem dcall_min2 : DCall C (fun xs H Q => ∃ i j, xs = [.int i, .int j] ∧ Q (.int (if j < i then j else i)) H) dMin2 := fun vs ss δ σ W H Q QV sat r ⟨i, j, e, q⟩ k => by
  subst e
  obtain ⟨v, u, rfl, r1, r2⟩ := all2_two r
  cases r1
  cases r2
  exact ⟨i, j, rfl, fin_same sat (.int _) q k⟩
def dAbs : List S → (S → Prop) → Prop := fun ss Q => ∃ i : Int, ss = [.d (.int i)] ∧ Q (.d (.int (if i < 0 then -i else i)))
theorem dcall_abs : DCall C (fun xs H Q => ∃ i, xs = [.int i] ∧ Q (.int (if i < 0 then -i else i)) H) dAbs := fun vs ss δ σ W H Q QV sat r ⟨i, e, q⟩ k => by
  subst e
  obtain ⟨v, rfl, r1⟩ := all2_one r
  cases r1
  exact ⟨i, rfl, fin_same sat (.int _) q k⟩
def dInt1 : List S → (S → Prop) → Prop := fun ss Q => ∃ i : Int, ss = [.d (.int i)] ∧ Q (.d (.int i))
theorem dcall_int1 : DCall C (fun xs H Q => (∃ i, xs = [.int i] ∧ Q (.int i) H) ∨ ∃ k, xs = [.bl k] ∧ Q (.int (if k then 1 else 0)) H) dInt1 := fun vs ss δ σ W H Q QV sat r ⟨i, e, q⟩ k => by
  subst e
  obtain ⟨v, rfl, r1⟩ := all2_one r
  cases r1
  exact .inl ⟨i, rfl, fin_same sat (.int _) q k⟩
def dGcd : List S → (S → Prop) → Prop := fun ss Q => ∃ i j : Int, ss = [.d (.int i), .d (.int j)] ∧ Q (.d (.int ((Nat.gcd i.natAbs j.natAbs : Nat) : Int)))
theorem dcall_gcd : DCall C rGcd dGcd := fun vs ss δ σ W H Q QV sat r ⟨i, j, e, q⟩ k => by
  subst e
  obtain ⟨v, u, rfl, r1, r2⟩ := all2_two r
  cases r1
  cases r2
  exact ⟨i, j, rfl, fin_same sat (.int _) q k⟩
/-- tuple(xs), list(xs) -/
def seqD : D → Option (List D)
  | .list xs => some xs
  | .tuple xs => some xs
  | _ => none
def dTupleOf : List S → (S → Prop) → Prop := fun ss Q => ∃ x xs, ss = [.d x] ∧ seqD x = some xs ∧ Q (.d (.tuple xs))
theorem dcall_tuple : DCall C (fun xs H Q => ∃ p ys, xs = [.ref p] ∧ ((SqL C.X.K H p ys ∧ ∀ l, H l = none → Q (.ref l) (upd H l (.tup ys))) ∨ (SqT C.X.K H p ys ∧ Q (.ref p) H))) dTupleOf := fun vs ss δ σ W H Q QV sat r ⟨x, xs, e, hx, q⟩ k => by
  subst e
  obtain ⟨v, rfl, r1⟩ := all2_one r
  have r1 : Dp C.X.K W.b v x := r1
  cases x with
  | list ys =>
    cases hx
    obtain ⟨a, ws, rfl, h, h2⟩ := dp_list_inv r1
    exact ⟨a, ws, rfl, .inl ⟨sqL_mono sat.ok.bH h, fun l hl => fin_tup sat hl h2 q k⟩⟩
  | tuple ys =>
    cases hx
    obtain ⟨a, ws, rfl, h, h2⟩ := dp_tup_inv r1
    exact ⟨a, ws, rfl, .inr ⟨sqT_mono sat.ok.bH h, fin_same sat (.tup h h2) q k⟩⟩
  | _ => cases hx
def dListOf : List S → (S → Prop) → Prop := fun ss Q => ∃ x xs, ss = [.d x] ∧ seqD x = some xs ∧ ∀ p, Q (.own p xs)
theorem dcall_list : DCall C (fun xs H Q => ∃ p ys, xs = [.ref p] ∧ (SqL C.X.K H p ys ∨ SqT C.X.K H p ys) ∧ ∀ l, H l = none → Q (.ref l) (upd H l (.lst ys))) dListOf := fun vs ss δ σ W H Q QV sat r ⟨x, xs, e, hx, q⟩ k => by
  subst e
  obtain ⟨v, rfl, r1⟩ := all2_one r
  have r1 : Dp C.X.K W.b v x := r1
  cases x with
  | list ys =>
    cases hx
    obtain ⟨a, ws, rfl, h, h2⟩ := dp_list_inv r1
    exact ⟨a, ws, rfl, .inl (sqL_mono sat.ok.bH h), fun l hl => fin_lst sat (Step.refl W H) hl h2 (q l) k⟩
  | tuple ys =>
    cases hx
    obtain ⟨a, ws, rfl, h, h2⟩ := dp_tup_inv r1
    exact ⟨a, ws, rfl, .inr (sqT_mono sat.ok.bH h), fun l hl => fin_lst sat (Step.refl W H) hl h2 (q l) k⟩
  | _ => cases hx
/-- sorted of ints -/
def dSortedI : List S → (S → Prop) → Prop := fun ss Q => ∃ ns : List Int, ss = [.d (.list (ns.map PyData.int))] ∧ ∀ ns' : List Int, ns'.Perm ns → ns'.Pairwise (· ≤ ·) → ∀ p, Q (.own p (ns'.map PyData.int))
theorem dcall_sortedI : DCall C (rSortedI C.X.K) dSortedI := fun vs ss δ σ W H Q QV sat r ⟨ns, e, q⟩ k => by
  subst e
  obtain ⟨v, rfl, r1⟩ := all2_one r
  obtain ⟨a, rfl, h⟩ := dp_ints_inv (show Dp C.X.K W.b v (.list (ns.map PyData.int)) from r1)
  exact ⟨a, ns, rfl, sqL_mono sat.ok.bH h, fun ns' p h1 h2 hp => fin_lst sat (Step.refl W H) hp (dpAll_of_ints ns') (q ns' h1 h2 p) k⟩

/-! ### a call of a def -/
abbrev SpD := List S → (S → Prop) → (XD → Prop) → Prop
/-- a promise on data as HandS has it -/
def LS (K : PySem.W.Frag) (ρ : Hp → Prop) (n : Nat) (sp : SpD) : Sp := fun vs H Q E => vs.length = n ∧ ∃ (W : Wd) (ss : List S) (Qd : S → Prop) (Ed : XD → Prop), WOk ρ W H ∧ All2 K W H ss vs ∧ (∀ p xs, S.own p xs ∉ ss) ∧ sp ss Qd Ed ∧
  (∀ v W' H' s, WOk ρ W' H' → Step W H W' H' → SOk K W' H' s v → Fresh H s → Qd s → Q v H') ∧ (∀ x cls d W' H', WOk ρ W' H' → Step W H W' H' → XRel K W' H' x cls d → Ed x → E cls d H')
/-- what a def that may raise promises -/
abbrev FnD (P : Program) (w : World) (K : PySem.W.Frag) (mg : Str → Option Value) (base : Heap) (ρ : Hp → Prop) (k : Nat) (f : Addr) (fd : FuncData) (ps : List Str) (sp : SpD) : Prop :=
  FnOk P w K mg base (L2.CX P w) k f fd ps (LS K ρ ps.length sp)
/-- no list of one's own among them -/
def noOwn : List S → Bool
  | [] => true
  | .own _ _ :: _ => false
  | _ :: r => noOwn r
theorem noOwn_ok : ∀ {ss : List S}, noOwn ss = true → ∀ p xs, S.own p xs ∉ ss
  | [], _, _, xs => by simp
  | .own _ _ :: _, h, _, _ => by cases h
  | .d _ :: r, h, p, xs => by simpa using noOwn_ok (ss := r) h p xs
  | .v _ :: r, h, p, xs => by simpa using noOwn_ok (ss := r) h p xs
  | .dic _ :: r, h, p, xs => by simpa using noOwn_ok (ss := r) h p xs
def tdCall (n : Nat) (sp : SpD) (Ed : XD → Prop) (t : TAr) : TD := fun δ Q => t δ fun ss => ss.length = n ∧ noOwn ss = true ∧ sp ss Q Ed
theorem de_call {k : Nat} {f : Addr} {fd : FuncData} {ps : List Str} {sp : SpD} {x : Str} (F : FnD C.X.prog C.X.w C.X.K C.X.mg C.X.base C.ρ k f fd ps sp) (ok : C.Ok) (hr : Room k C.X.A) (hm : C.X.mg x = some (.ref f)) (hk : PySem.W.keepIn C.X.K (.ref f) = true)
    (hb : Binds C.X.K fd ps []) (ha : DA C (e :: es) tr) (hg : Gl C.X x := by rfl) (hdb : (x == ("__debug__" : Str)) = false := by decide) (he : starEach (e :: es) C.X.env = (false, eval e C.X.env) :: starEach es C.X.env := by rfl) (hpl : (backTo pos (starEach es C.X.env)).any (·.1) = false := by rfl) :
    DE C (.Call (.Name x p) (e :: es) [] pos) (tdCall ps.length sp C.Ed tr) := by
  obtain ⟨tv, h1, h2⟩ := ha
  refine ⟨_, pe_call F hr hg hm hk hb .nil (E := C.EX) (passes_call ok.tk fun _ _ _ _ z => z) h1 hdb he hpl, fun δ σ W H Q QV sat q k => h2 δ σ W H _ _ sat q fun vs W1 H1 ss s1 st1 r1 q1 => ?_⟩
  rw [List.append_nil]
  refine ⟨r1.len.trans q1.1, W1, ss, Q, C.Ed, s1.ok, r1, noOwn_ok q1.2.1, q1.2.2, fun v W2 H2 s w2 st2 r2 f2 q2 => ?_, fun y cls d W2 H2 w2 st2 r2 q2 => ?_⟩
  · refine k v W2 H2 s (s1.go w2 st2) (st1.trans st2) r2 (fun z xs e => ?_) q2
    cases h : H z with
    | none => rfl
    | some o =>
      obtain ⟨o', h'⟩ := st1.th z o h
      rw [f2 z xs e] at h'
      cases h'
  · exact ok.lk y cls d W2 H2 q2 w2 (s1.step.trans st2) r2
end
end DL

-- part DLd
namespace DL
open PySem PySem.Spec PyProof.Rows L2
theorem dpAll_atI {K : PySem.W.Frag} {H : Hp} {vs : List V} {ds : List D} {i : Int} {x : D} (r : DpAll K H vs ds) (h : atI ds i = some x) : ∃ v, atI vs i = some v ∧ Dp K H v x := by
  unfold atI at h ⊢
  rw [dpAll_len r]
  cases e : ixN ds.length i with
  | none => rw [e] at h; cases h
  | some j =>
    rw [e] at h
    exact dpAll_get r h
/-- the part xs[lo:hi] -/
def cut {α : Type} (xs : List α) (lo hi : Option Int) : List α := (xs.drop (HT.sIx xs.length 0 lo)).take (HT.sIx xs.length xs.length hi - HT.sIx xs.length 0 lo)
theorem dpAll_cut {K : PySem.W.Frag} {H : Hp} {vs : List V} {ds : List D} {lo hi : Option Int} (r : DpAll K H vs ds) : DpAll K H (cutV vs lo hi) (cut ds lo hi) := by
  unfold cutV cut
  rw [dpAll_len r]
  exact dpAll_take _ (dpAll_drop _ r)
section
variable {C : DC} {a b c e : Expr} {es : List Expr} {ta tb tc : TV} {td te : TD} {tr : TAr} {pos p : Pos}
/-! ### subscripts -/
def dIx : D → D → (D → Prop) → Prop := fun x y Q => ∃ i, y = .int i ∧ match x with
  | .list xs => ∃ z, atI xs i = some z ∧ Q z
  | .tuple xs => ∃ z, atI xs i = some z ∧ Q z
  | .str s => s.length ≤ sizeLine ∧ ∃ c, atI s.cps.toList i = some c ∧ Q (.str ⟨#[c]⟩)
  | _ => False
theorem dop_ix : DOp C (rIx C.X.K) dIx := fun x y dx dy W H Q QV w rx ry q k => by
  obtain ⟨i, rfl, q⟩ := q
  cases ry
  cases dx with
  | list xs =>
    obtain ⟨z, hz, q⟩ := q
    obtain ⟨a, vs, rfl, h1, h2⟩ := dp_list_inv rx
    obtain ⟨v, hv, r⟩ := dpAll_atI h2 hz
    exact .inl ⟨a, vs, i, v, rfl, rfl, sqL_mono w.bH h1, hv, k _ W H _ w (Step.refl W H) r q⟩
  | tuple xs =>
    obtain ⟨z, hz, q⟩ := q
    obtain ⟨a, vs, rfl, h1, h2⟩ := dp_tup_inv rx
    obtain ⟨v, hv, r⟩ := dpAll_atI h2 hz
    exact .inr (.inl ⟨a, vs, i, v, rfl, rfl, sqT_mono w.bH h1, hv, k _ W H _ w (Step.refl W H) r q⟩)
  | str s =>
    obtain ⟨hl, c, hc, q⟩ := q
    cases rx
    exact .inr (.inr ⟨s, i, c, rfl, rfl, hl, hc, k _ W H _ w (Step.refl W H) (.str _) q⟩)
  | _ => exact q.elim
theorem dv_ix (ha : DV C a ta) (hb : DV C b tb) (hs : PlainIx b := by exact fun _ _ => rfl) : DV C (.Subscript a b pos) (tv2 dIx ta tb) := by
  obtain ⟨tva, pa, la⟩ := ha
  obtain ⟨tvb, pb, lb⟩ := hb
  exact ⟨_, pe_ix ix_seq pa pb hs, lift2 dop_ix la lb⟩
/-! ### slices -/
abbrev TOD := Sl → (Option Int → Prop) → Prop
def DO (C : DC) (e : Option Expr) (t : TOD) : Prop := ∃ tv : L2.TO, PO C.X e tv ∧ ∀ δ σ W H (Q : Option Int → Prop) (QV : Option Int → Hp → Prop), Sat C δ σ W H → t δ Q →
  (∀ o W' H', Sat C δ σ W' H' → Step W H W' H' → Q o → QV o H') → tv σ H QV
def toNone : TOD := fun _ Q => Q none
def toSome (t : TV) : TOD := fun δ Q => t δ fun x => ∃ i, x = .int i ∧ Q (some i)
theorem do_none : DO C none toNone := ⟨_, po_none, fun δ σ W H Q QV sat q k => k none W H sat (Step.refl W H) q⟩
theorem do_some (h : DV C e ta) : DO C (some e) (toSome ta) := by
  obtain ⟨tv, h1, h2⟩ := h
  refine ⟨_, po_some h1, fun δ σ W H Q QV sat q k => h2 δ σ W H _ _ sat q fun v W1 H1 x s1 st1 r1 ⟨i, ei, q1⟩ => ?_⟩
  subst ei
  cases r1
  exact ⟨i, rfl, k (some i) W1 H1 s1 st1 q1⟩
def dSl (x : D) (lo hi : Option Int) (Q : S → Prop) : Prop := match x with
  | .list xs => ∀ p, Q (.own p (cut xs lo hi))
  | .tuple xs => Q (.d (.tuple (cut xs lo hi)))
  | .str s => s.length ≤ sizeLine ∧ Q (.d (.str (cutS s lo hi)))
  | _ => False
def tdSl (ta : TV) (tl th : TOD) : TD := fun δ Q => ta δ fun x => tl δ fun lo => th δ fun hi => dSl x lo hi Q
def rSlA3 (K : PySem.W.Frag) : V → Option Int → Option Int → Hp → VK → Prop := fun x lo hi H Q => rSlL K x lo hi H Q ∨ (rSlA K x lo hi H Q ∨ rSlS x lo hi H Q)
theorem sl_any3 : SlR C.X (rSlA3 C.X.K) := sl_list.or (sl_tupA.or sl_str)
theorem cut_whole {α : Type} {xs : List α} {lo hi : Option Int} (h : HT.sIx xs.length 0 lo = 0 ∧ HT.sIx xs.length xs.length hi = xs.length) : cut xs lo hi = xs := by
  unfold cut
  rw [h.1, h.2]
  simp
theorem de_slice {lo hi : Option Expr} {tl th : TOD} {p2 : Pos} (ha : DV C e ta) (hl : DO C lo tl) (hh : DO C hi th) : DE C (.Subscript e (.Slice lo hi none p2) pos) (tdSl ta tl th) := by
  obtain ⟨tv, h1, h2⟩ := ha
  obtain ⟨tw, g1, g2⟩ := hl
  obtain ⟨tx, f1, f2⟩ := hh
  refine ⟨_, pe_slice sl_any3 h1 g1 f1, fun δ σ W H Q QV sat q k => h2 δ σ W H _ _ sat q fun v W1 H1 x s1 st1 r1 q1 => ?_⟩
  refine g2 δ σ W1 H1 _ _ s1 q1 fun l W2 H2 s2 st2 q2 => ?_
  refine f2 δ σ W2 H2 _ _ s2 q2 fun u W3 H3 s3 st3 q3 => ?_
  have st := (st1.trans st2).trans st3
  have r3 := dp_mono (st2.trans st3).b r1
  cases x with
  | list xs =>
    obtain ⟨a, vs, rfl, k1, k2⟩ := dp_list_inv r3
    exact .inl ⟨a, vs, rfl, sqL_mono s3.ok.bH k1, fun p hp => fin_lst s3 st hp (dpAll_cut k2) (q3 p) k⟩
  | tuple xs =>
    obtain ⟨a, vs, rfl, k1, k2⟩ := dp_tup_inv r3
    refine .inr (.inl ⟨a, vs, rfl, sqT_mono s3.ok.bH k1, fun hw => ?_, fun _ p hp => ?_⟩)
    · refine k _ W3 H3 (.d (.tuple (cut xs l u))) s3 st ?_ (fun _ _ z => nomatch z) q3
      rw [dpAll_len k2] at hw
      rw [cut_whole hw]
      exact .tup k1 k2
    · have stp := Step.put (o := HO.tup (cutV vs l u)) s3.ok.bH hp
      exact k _ _ _ (.d _) (s3.go (s3.ok.put hp) stp) (st.trans stp) (put_tup s3.ok hp (dpAll_cut k2)) (fun _ _ z => nomatch z) q3
  | str s =>
    cases r3
    exact .inr (.inr ⟨s, rfl, q3.1, k _ W3 H3 (.d _) s3 st (Dp.str _) (fun _ _ z => nomatch z) q3.2⟩)
  | _ => exact q3.elim
/-! ### in -/
def flatD : D → Bool
  | .none | .bool _ | .int _ | .str _ => true
  | _ => false
theorem flat_v {K : PySem.W.Frag} {H : Hp} {v : V} {x : D} (r : Dp K H v x) (h : flatD x = true) : flatV v = true := by cases r <;> first | rfl | cases h
theorem flat_all {K : PySem.W.Frag} {H : Hp} : ∀ {vs : List V} {ds : List D}, DpAll K H vs ds → ds.all flatD = true → vs.all flatV = true
  | _, _, .nil, _ => rfl
  | _, _, .cons h r, q => by
    rw [List.all_cons, Bool.and_eq_true] at q ⊢
    exact ⟨flat_v h q.1, flat_all r q.2⟩
theorem flat_eq {K : PySem.W.Frag} {H : Hp} {v u : V} {x y : D} (r : Dp K H v x) (r' : Dp K H u y) (h : flatD x = true) (h' : flatD y = true) : eqV v u = PyData.eqv x y := by
  cases r <;> cases r' <;> first | (simp [eqV, PyData.eqv]; done) | (exact absurd h (by simp [flatD])) | (exact absurd h' (by simp [flatD]))
theorem flat_in {K : PySem.W.Frag} {H : Hp} {v : V} {x : D} (r : Dp K H v x) (h : flatD x = true) : ∀ {vs : List V} {ds : List D}, DpAll K H vs ds → ds.all flatD = true → inV v vs = ds.any fun z => PyData.eqv z x
  | _, _, .nil, _ => rfl
  | _, _, .cons h1 r1, q => by
    rw [List.all_cons, Bool.and_eq_true] at q
    have ih := flat_in r h r1 q.2
    unfold inV at ih ⊢
    rw [List.any_cons, List.any_cons, ih, flat_eq h1 r q.1 h]
def inD (x y : D) : Option Bool := match y with
  | .list ds => if flatD x && ds.all flatD || SeqAt.shaped x && SeqAt.shaped (.list ds) then some (ds.any fun z => PyData.eqv z x) else none
  | .tuple ds => if flatD x && ds.all flatD then some (ds.any fun z => PyData.eqv z x) else none
  | .str z => match x with
    | .str w => some (!(Builtin.Str.occurrences z w 0 z.length 1).isEmpty)
    | _ => none
  | _ => none
def dIn : D → D → (D → Prop) → Prop := fun x y Q => ∃ b, inD x y = some b ∧ Q (.bool b)
def dNotIn : D → D → (D → Prop) → Prop := fun x y Q => ∃ b, inD x y = some b ∧ Q (.bool (!b))
def rInA (K : PySem.W.Frag) : R2 := fun x y H Q => rIn K false x y H Q ∨ (rInD K x y H Q ∨ ∃ i j, x = .str i ∧ y = .str j ∧ Q (.bl (!(Builtin.Str.occurrences j i 0 j.length 1).isEmpty)) H)
def rNotInA (K : PySem.W.Frag) : R2 := fun x y H Q => rIn K true x y H Q ∨ (rNotInD K x y H Q ∨ ∃ i j, x = .str i ∧ y = .str j ∧ Q (.bl (!(!(Builtin.Str.occurrences j i 0 j.length 1).isEmpty))) H)
theorem op_inA (hu : C.X.A.units + 65 < cLine) : OpR C.X (compareOp .In) (rInA C.X.K) := op_in_seq.or ((op_inD hu).or op_in_str)
theorem op_notInA (hu : C.X.A.units + 65 < cLine) : OpR C.X (compareOp .NotIn) (rNotInA C.X.K) := op_notIn_seq.or ((op_notInD hu).or op_notin_str)
theorem inD_cases {K : PySem.W.Frag} {H : Hp} {x y : V} {dx dy : D} {b : Bool} (rx : Dp K H x dx) (ry : Dp K H y dy) (h : inD dx dy = some b) :
    (∃ p xs, y = .ref p ∧ (SqL K H p xs ∨ SqT K H p xs) ∧ flatV x = true ∧ xs.all flatV = true ∧ b = inV x xs) ∨
    (∃ ds, Dp K H y (.list ds) ∧ SeqAt.shaped dx = true ∧ SeqAt.shaped (.list ds) = true ∧ b = ds.any fun z => PyData.eqv z dx) ∨ ∃ i j, x = .str i ∧ y = .str j ∧ b = !(Builtin.Str.occurrences j i 0 j.length 1).isEmpty := by
  cases dy with
  | list ds =>
    unfold inD at h
    by_cases f : (flatD dx && ds.all flatD) = true
    · simp only [f, Bool.true_or, if_true, Option.some.injEq] at h
      rw [Bool.and_eq_true] at f
      obtain ⟨a, vs, rfl, h1, h2⟩ := dp_list_inv ry
      exact .inl ⟨a, vs, rfl, .inl h1, flat_v rx f.1, flat_all h2 f.2, by rw [flat_in rx f.1 h2 f.2]; exact h.symm⟩
    · simp only [Bool.not_eq_true] at f
      simp only [f, Bool.false_or] at h
      by_cases g : (SeqAt.shaped dx && SeqAt.shaped (.list ds)) = true
      · simp only [g, if_true, Option.some.injEq] at h
        rw [Bool.and_eq_true] at g
        exact .inr (.inl ⟨ds, ry, g.1, g.2, h.symm⟩)
      · simp [g] at h
  | tuple ds =>
    unfold inD at h
    by_cases f : (flatD dx && ds.all flatD) = true
    · simp only [f, if_true, Option.some.injEq] at h
      rw [Bool.and_eq_true] at f
      obtain ⟨a, vs, rfl, h1, h2⟩ := dp_tup_inv ry
      exact .inl ⟨a, vs, rfl, .inr h1, flat_v rx f.1, flat_all h2 f.2, by rw [flat_in rx f.1 h2 f.2]; exact h.symm⟩
    · simp [f] at h
  | str z =>
    cases dx with
    | str w =>
      cases rx
      cases ry
      simp only [inD, Option.some.injEq] at h
      exact .inr (.inr ⟨w, z, rfl, rfl, h.symm⟩)
    | _ => simp [inD] at h
  | _ => simp [inD] at h
theorem dop_in : DOp C (rInA C.X.K) dIn := fun x y dx dy W H Q QV w rx ry ⟨b, hb, q⟩ k => by
  have kk : QV (.bl b) H := k _ W H _ w (Step.refl W H) (.bl _) q
  rcases inD_cases (dp_mono w.bH rx) (dp_mono w.bH ry) hb with ⟨p, xs, e, h1, h2, h3, h4⟩ | ⟨ds, h1, h2, h3, h4⟩ | ⟨i, j, e1, e2, h4⟩
  · exact .inl ⟨p, xs, e, h1, h2, h3, by rw [h4] at kk; exact kk⟩
  · exact .inr (.inl ⟨dx, ds, dp_mono w.bH rx, h1, h2, h3, by rw [h4] at kk; exact kk⟩)
  · exact .inr (.inr ⟨i, j, e1, e2, by rw [h4] at kk; exact kk⟩)
theorem dop_notIn : DOp C (rNotInA C.X.K) dNotIn := fun x y dx dy W H Q QV w rx ry ⟨b, hb, q⟩ k => by
  have kk : QV (.bl (!b)) H := k _ W H _ w (Step.refl W H) (.bl _) q
  rcases inD_cases (dp_mono w.bH rx) (dp_mono w.bH ry) hb with ⟨p, xs, e, h1, h2, h3, h4⟩ | ⟨ds, h1, h2, h3, h4⟩ | ⟨i, j, e1, e2, h4⟩
  · exact .inl ⟨p, xs, e, h1, h2, h3, by rw [h4] at kk; exact kk⟩
  · exact .inr (.inl ⟨dx, ds, dp_mono w.bH rx, h1, h2, h3, by rw [h4] at kk; exact kk⟩)
  · exact .inr (.inr ⟨i, j, e1, e2, by rw [h4] at kk; exact kk⟩)
theorem units65 {n : Nat} {A : Around} (hr : Room n A) : A.units + 65 < cLine := by have := hr.un; omega
theorem dv_in {n : Nat} (hr : Room n C.X.A) (ha : DV C a ta) (hb : DV C b tb) (hm : behindInMarks .In b = false := by rfl) : DV C (.Compare a [.In] [b] pos) (tv2 dIn ta tb) := dv_cmp (op_inA (units65 hr)) dop_in ha hb hm
theorem dt_in {n : Nat} (hr : Room n C.X.A) (ha : DV C a ta) (hb : DV C b tb) (hm : behindInMarks .In b = false := by rfl) : DT C (.Compare a [.In] [b] pos) (tbOf (tv2 dIn ta tb)) := dt_cmp (op_inA (units65 hr)) dop_in ha hb hm
theorem dv_notIn {n : Nat} (hr : Room n C.X.A) (ha : DV C a ta) (hb : DV C b tb) (hm : behindInMarks .NotIn b = false := by rfl) : DV C (.Compare a [.NotIn] [b] pos) (tv2 dNotIn ta tb) := dv_cmp (op_notInA (units65 hr)) dop_notIn ha hb hm
theorem dt_notIn {n : Nat} (hr : Room n C.X.A) (ha : DV C a ta) (hb : DV C b tb) (hm : behindInMarks .NotIn b = false := by rfl) : DT C (.Compare a [.NotIn] [b] pos) (tbOf (tv2 dNotIn ta tb)) := dt_cmp (op_notInA (units65 hr)) dop_notIn ha hb hm
/-! ### isinstance -/
def tyD : D → String
  | .none => "NoneType"
  | .bool _ => "bool"
  | .int _ => "int"
  | .str _ => "str"
  | .list _ => "list"
  | .tuple _ => "tuple"
  | .dict _ => "dict"
theorem ty_of {K : PySem.W.Frag} {H : Hp} {v : V} {x : D} (r : Dp K H v x) : TyX K H v (.type (tyD x)) := by
  cases r with
  | non => exact .base .non
  | bl b => exact .base (.bl b)
  | int i => exact .base (.int i)
  | str s => exact .base (.str s)
  | lst h _ =>
    rcases h with (h | ⟨o, h⟩) | ⟨o, its, n, h, hc, _⟩
    · exact .base (.lst h)
    · exact .base (.frz h)
    · exact .kList h hc
  | tup h _ =>
    rcases h with (h | ⟨o, h⟩) | ⟨o, its, n, h, hc, _⟩
    · exact .base (.tup h)
    · exact .fTuple h
    · exact .kTuple h hc
def isD (x : D) (T : String) : Bool := tyD x == T || (tyD x == "bool" && T == "int")
/-- the classes that are asked for -/
def okT (T : String) : Bool := T == "int" || T == "bool" || T == "str" || T == "list" || T == "tuple" || T == "dict"
theorem isD_kit (x : D) {T : String} (h : okT T = true) : kitB (tyD x) T = some (isD x T) := by
  have hT : T = "int" ∨ T = "bool" ∨ T = "str" ∨ T = "list" ∨ T = "tuple" ∨ T = "dict" := by
    simpa [okT, or_assoc] using h
  rcases hT with e | e | e | e | e | e <;> subst e <;> cases x <;> (first | decide +kernel | rfl)
def tvIsi (T : String) (ta : TV) : TV := fun δ Q => ta δ fun x => Q (.bool (isD x T))
theorem dv_isi {T : Str} {n : String} {p1 p2 : Pos} (hm : C.X.mg "isinstance" = none) (hm2 : C.X.mg T = none) (hT : bootBuiltins T = some (.type n)) (ok : okT n = true) (ha : DV C a ta) (hg : Gl C.X "isinstance" := by rfl) (hg2 : Gl C.X T := by rfl)
    (hn2 : T ≠ "__name__" := by decide) (hd2 : (T == ("__debug__" : Str)) = false := by decide) (hv : bootBuiltins "isinstance" = some (.builtin "isinstance") := by decide +kernel)
    (hs : starEach [a, .Name T p2] C.X.env = (false, eval a C.X.env) :: starEach [.Name T p2] C.X.env := by rfl) (hs2 : starEach [.Name T p2] C.X.env = (false, eval (.Name T p2) C.X.env) :: starEach [] C.X.env := by rfl)
    (hpl : (backTo pos (starEach [.Name T p2] C.X.env)).any (·.1) = false := by rfl) :
    DV C (.Call (.Name "isinstance" p1) [a, .Name T p2] [] pos) (tvIsi n ta) := by
  obtain ⟨tv, h1, h2⟩ := ha
  refine ⟨_, pe_callB call_isi hg hm hv (pa_cons h1 (pa_cons (pe_bltn (v := .ty n) hg2 hm2 hT rfl hn2 hd2) pa_nil hs2) hs) (by decide) (by decide) hs hpl, fun δ σ W H Q QV sat q k => h2 δ σ W H _ _ sat q fun v W1 H1 x s1 st1 r1 q1 => ?_⟩
  exact ⟨v, .ty n, .type (tyD x), .type n, isD x n, rfl, .ty n, ty_of (dp_mono s1.ok.bH r1), kit_ty (isD_kit x ok), k _ W1 H1 _ s1 st1 (.bl _) q1⟩
/-- isinstance(a, (T, U)) -/
def tvIsi2 (T U : String) (ta : TV) : TV := fun δ Q => ta δ fun x => Q (.bool (isD x T || isD x U))
theorem dv_isi2 {T U : Str} {n m : String} {p1 p2 p3 p4 : Pos} {k1} (hm : C.X.mg "isinstance" = none) (hm2 : C.X.mg T = none) (hT : bootBuiltins T = some (.type n)) (ok : okT n = true) (hm3 : C.X.mg U = none) (hU : bootBuiltins U = some (.type m)) (ok2 : okT m = true) (ha : DV C a ta)
    (hg : Gl C.X "isinstance" := by rfl) (hg2 : Gl C.X T := by rfl) (hg3 : Gl C.X U := by rfl)
    (hn2 : T ≠ "__name__" := by decide) (hd2 : (T == ("__debug__" : Str)) = false := by decide) (hn3 : U ≠ "__name__" := by decide) (hd3 : (U == ("__debug__" : Str)) = false := by decide) (hv : bootBuiltins "isinstance" = some (.builtin "isinstance") := by decide +kernel)
    (hs : starEach [a, .Tuple [.Name T p2, .Name U p3] k1 p4] C.X.env = (false, eval a C.X.env) :: starEach [.Tuple [.Name T p2, .Name U p3] k1 p4] C.X.env := by rfl) (hs2 : starEach [.Tuple [.Name T p2, .Name U p3] k1 p4] C.X.env = (false, eval (.Tuple [.Name T p2, .Name U p3] k1 p4) C.X.env) :: starEach [] C.X.env := by rfl)
    (hs3 : starEach [.Name T p2, .Name U p3] C.X.env = (false, eval (.Name T p2) C.X.env) :: starEach [.Name U p3] C.X.env := by rfl) (hs4 : starEach [.Name U p3] C.X.env = (false, eval (.Name U p3) C.X.env) :: starEach [] C.X.env := by rfl)
    (hpl : (backTo pos (starEach [.Tuple [.Name T p2, .Name U p3] k1 p4] C.X.env)).any (·.1) = false := by rfl) :
    DV C (.Call (.Name "isinstance" p1) [a, .Tuple [.Name T p2, .Name U p3] k1 p4] [] pos) (tvIsi2 n m ta) := by
  obtain ⟨tv, h1, h2⟩ := ha
  refine ⟨_, pe_callB call_isiT hg hm hv (pa_cons h1 (pa_cons (pe_tup (pa_cons (pe_bltn (v := .ty n) hg2 hm2 hT rfl hn2 hd2) (pa_cons (pe_bltn (v := .ty m) hg3 hm3 hU rfl hn3 hd3) pa_nil hs4) hs3)) pa_nil hs2) hs) (by decide) (by decide) hs hpl, fun δ σ W H Q QV sat q k => h2 δ σ W H _ _ sat q fun v W1 H1 x s1 st1 r1 q1 => ?_⟩
  refine ⟨by show 2 ≤ sizeLine; decide, fun t ht => ?_⟩
  refine ⟨v, t, [.ty n, .ty m], .type (tyD x), [.type n, .type m], isD x n || isD x m, rfl, upd_same, .cons (.ty n) (.cons (.ty m) .nil), ?_, ?_, ?_⟩
  · refine ty_of (dp_mono (fun b o e => ?_) r1)
    have := s1.ok.bH b o e
    rw [upd_ne (ne_of_none this ht)]
    exact this
  · refine kitAny_cons (kit_ty (isD_kit x ok)) (fun e => ?_) (fun e => by rw [e]; rfl)
    refine kitAny_cons (kit_ty (isD_kit x ok2)) (fun e2 => ?_) (fun e2 => by rw [e2]; simp)
    rw [e, e2]
    exact kitAny_nil
  · obtain ⟨f1, f2⟩ := s1.ok.free ht
    have st := Step.lay (W := W1) (o := HO.tup [.ty n, .ty m]) ht
    exact k _ W1 _ _ (s1.go (s1.ok.lay f1 f2) st) (st1.trans st) (.bl _) q1
end
end DL

-- part DLe
namespace DL
open PySem PySem.Spec PyProof.Rows L2
/-! ### slots changed -/
theorem Sat.set {C : DC} {δ : Sl} {σ : L2.St} {W : Wd} {H : Hp} {i : Nat} {s : S} {v : V} (h : Sat C δ σ W H) (r : SOk C.X.K W H s v) (f : ∀ p xs, s = .own p xs → C.H0 p = none ∧ ∀ (j : Nat) (ys : List D), j ≠ i → δ[j]? ≠ some (some (S.own p ys))) :
    Sat C (δ.set i (some s)) (σ.set i (some v)) W H where
  ok := h.ok
  step := h.step
  sl := fun j t e => by
    by_cases z : i = j
    · subst z
      have hl : i < (δ.set i (some s)).length := (List.getElem?_eq_some_iff.mp e).1
      rw [List.length_set] at hl
      rw [List.getElem?_set_self hl] at e
      cases e
      have hl2 : i < σ.length := by rw [← h.len]; exact hl
      exact ⟨v, List.getElem?_set_self hl2, r⟩
    · rw [List.getElem?_set_ne z] at e ⊢
      exact h.sl j t e
  ap := fun j k p xs ys e1 e2 => by
    by_cases zj : i = j
    · by_cases zk : i = k
      · exact zj.symm.trans zk
      · subst zj
        have hl : i < (δ.set i (some s)).length := (List.getElem?_eq_some_iff.mp e1).1
        rw [List.length_set] at hl
        rw [List.getElem?_set_self hl] at e1
        rw [List.getElem?_set_ne zk] at e2
        cases e1
        exact absurd e2 ((f p xs rfl).2 k ys (fun z => zk z.symm))
    · by_cases zk : i = k
      · subst zk
        have hl : i < (δ.set i (some s)).length := (List.getElem?_eq_some_iff.mp e2).1
        rw [List.length_set] at hl
        rw [List.getElem?_set_self hl] at e2
        rw [List.getElem?_set_ne zj] at e1
        cases e2
        exact absurd e1 ((f p ys rfl).2 j xs (fun z => zj z.symm))
      · rw [List.getElem?_set_ne zj] at e1
        rw [List.getElem?_set_ne zk] at e2
        exact h.ap j k p xs ys e1 e2
  new := fun j p xs e1 => by
    by_cases zj : i = j
    · subst zj
      have hl : i < (δ.set i (some s)).length := (List.getElem?_eq_some_iff.mp e1).1
      rw [List.length_set] at hl
      rw [List.getElem?_set_self hl] at e1
      cases e1
      exact (f p xs rfl).1
    · rw [List.getElem?_set_ne zj] at e1
      exact h.new j p xs e1
  len := by rw [List.length_set, List.length_set]; exact h.len
/-- a fresh thing is stored -/
theorem Sat.setF {C : DC} {δ : Sl} {σ : L2.St} {W W0 : Wd} {H H0 : Hp} {i : Nat} {s : S} {v : V} (h0 : Sat C δ σ W0 H0) (h : Sat C δ σ W H) (r : SOk C.X.K W H s v) (f : Fresh H0 s) : Sat C (δ.set i (some s)) (σ.set i (some v)) W H :=
  h.set r fun p xs e => ⟨h0.entry (f p xs e), fun j ys _ => h0.apart (f p xs e) j ys⟩
/-- slots that are forgotten or said less of -/
theorem Sat.weak {C : DC} {δ δ' : Sl} {σ σ' : L2.St} {W : Wd} {H : Hp} (h : Sat C δ σ W H) (hl : δ'.length = σ'.length) (hw : ∀ (i : Nat) (s : S), δ'[i]? = some (some s) → δ[i]? = some (some s) ∧ ∀ v, σ[i]? = some (some v) → σ'[i]? = some (some v)) : Sat C δ' σ' W H where
  ok := h.ok
  step := h.step
  sl := fun i s e => by
    obtain ⟨e1, e2⟩ := hw i s e
    obtain ⟨v, e3, r⟩ := h.sl i s e1
    exact ⟨v, e2 v e3, r⟩
  ap := fun i j p xs ys e1 e2 => h.ap i j p xs ys (hw i _ e1).1 (hw j _ e2).1
  new := fun i p xs e1 => h.new i p xs (hw i _ e1).1
  len := hl
section
variable {C : DC} {a b c e : Expr} {es : List Expr} {ta tb tc : TV} {td te : TD} {tr : TAr} {pos p : Pos} {st : Stmt} {rest : List Stmt} {t u : TSD}
/-! ### blocks and small statements -/
def tsNext : TSD := fun D δ => D.nx δ
def tsSeq (t u : TSD) : TSD := fun D δ => t { D with nx := u D } δ
theorem dss_nil : DSs C [] tsNext := ⟨_, pss_nil, fun δ σ W H D DV sat q ok => ok.nx δ σ W H sat (BLe.refl W) q⟩
theorem dss_cons (h1 : DS C st t) (h2 : DSs C rest u) : DSs C (st :: rest) (tsSeq t u) := by
  obtain ⟨ts, g1, g2⟩ := h1
  obtain ⟨tu, f1, f2⟩ := h2
  exact ⟨_, pss_cons g1 f1, fun δ σ W H D DV sat q ok => g2 δ σ W H _ { DV with nx := tu DV } sat q ⟨fun δ' σ' W' H' s l q => f2 δ' σ' W' H' D DV s q (ok.on l), ok.rt, ok.bk, ok.ct⟩⟩
theorem dss_one (h1 : DS C st t) : DSs C [st] t := by
  obtain ⟨ts, g1, g2⟩ := h1
  exact ⟨ts, pss_one g1, g2⟩
theorem ds_pass : DS C (.Pass pos) tsNext := ⟨_, ps_pass, fun δ σ W H D DV sat q ok => ok.nx δ σ W H sat (BLe.refl W) q⟩
def tsBreak : TSD := fun D δ => D.bk δ
def tsCont : TSD := fun D δ => D.ct δ
theorem ds_break : DS C (.Break pos) tsBreak := ⟨_, ps_break, fun δ σ W H D DV sat q ok => ok.bk δ σ W H sat (BLe.refl W) q⟩
theorem ds_continue : DS C (.Continue pos) tsCont := ⟨_, ps_continue, fun δ σ W H D DV sat q ok => ok.ct δ σ W H sat (BLe.refl W) q⟩
def tsDrop (t : TD) : TSD := fun D δ => t δ fun _ => D.nx δ
theorem ds_expr (he : DE C e td) (hs : swapsWith e none pos.line C.X.env = pure false := by rfl) : DS C (.Expr e pos) (tsDrop td) := by
  obtain ⟨tv, h1, h2⟩ := he
  exact ⟨_, ps_expr h1 hs, fun δ σ W H D DV sat q ok => h2 δ σ W H _ _ sat q fun v W1 H1 s s1 st1 r1 f1 q1 => ok.nx δ σ W1 H1 s1 st1.b q1⟩
def tsRet (t : TD) : TSD := fun D δ => t δ D.rt
theorem ds_ret (he : DE C e td) : DS C (.Return (some e) pos) (tsRet td) := by
  obtain ⟨tv, h1, h2⟩ := he
  exact ⟨_, ps_ret h1, fun δ σ W H D DV sat q ok => h2 δ σ W H _ _ sat q fun v W1 H1 s s1 st1 r1 f1 q1 => ok.rt s v W1 H1 s1.ok s1.step r1 (fun p xs e => sat.entry (f1 p xs e)) q1⟩
/-- return x, x a list of one's own: given away, for the caller to change -/
def tsRetOwn (i : Nat) : TSD := fun E δ => ∃ p xs, δ[i]? = some (some (.own p xs)) ∧ E.rt (.own p xs)
theorem ds_retOwn {i : Nat} (h : PE C.X e (tVar i)) : DS C (.Return (some e) pos) (tsRetOwn i) := by
  refine ⟨_, ps_ret h, fun δ σ W H D DV sat ⟨p, xs, e, q⟩ ok => ?_⟩
  obtain ⟨v, e1, r⟩ := sat.sl i _ e
  exact ⟨v, e1, ok.rt _ v W H sat.ok sat.step r (fun p' xs' e' => by cases e'; exact sat.new i p xs e) q⟩
def tsRetN : TSD := fun D _ => D.rt (.d .none)
theorem ds_retN : DS C (.Return none pos) tsRetN := ⟨_, ps_retN, fun δ σ W H D DV sat q ok => ok.rt (.d .none) .non W H sat.ok sat.step (show Dp C.X.K W.b .non .none from .non) (fun _ _ z => nomatch z) q⟩
def tsIf (c : TB) (t u : TSD) : TSD := fun D δ => c δ fun b => if b = true then t D δ else u D δ
theorem ds_if {tb : TB} {x y : List Stmt} (hc : DT C c tb) (ha : DSs C x t) (hb : DSs C y u) : DS C (.If c x y pos) (tsIf tb t u) := by
  obtain ⟨tv, h1, h2⟩ := hc
  obtain ⟨ts, g1, g2⟩ := ha
  obtain ⟨tu, f1, f2⟩ := hb
  refine ⟨_, ps_if h1 g1 f1, fun δ σ W H D DV sat q ok => h2 δ σ W H _ _ sat q fun b W1 H1 s1 st1 q1 => ?_⟩
  cases b with
  | true => exact g2 δ σ W1 H1 D DV s1 q1 (ok.on st1.b)
  | false => exact f2 δ σ W1 H1 D DV s1 q1 (ok.on st1.b)
def tsNever : TSD := fun _ _ => False
theorem ds_never : DS C st tsNever := ⟨_, ps_never, fun _ _ _ _ _ _ _ q _ => q.elim⟩
theorem dss_never {sts : List Stmt} : DSs C sts tsNever := ⟨_, pss_never, fun _ _ _ _ _ _ _ q _ => q.elim⟩
/-! ### targets -/
abbrev TGD := S → Sl → (Sl → Prop) → Prop
abbrev TGDs := List D → Sl → (Sl → Prop) → Prop
/-- the value is apart from the slots' own lists -/
def Apart (C : DC) (δ : Sl) (s : S) : Prop := ∀ p xs, s = .own p xs → C.H0 p = none ∧ ∀ (j : Nat) (ys : List D), δ[j]? ≠ some (some (S.own p ys))
def DG (C : DC) (tg : Expr) (t : TGD) : Prop := ∃ tv : L2.TG, PG C.X tg tv ∧ ∀ s v δ σ W H (Q : Sl → Prop) (QV : L2.St → Hp → Prop), Sat C δ σ W H → SOk C.X.K W H s v → Apart C δ s → t s δ Q → (∀ δ' σ', Sat C δ' σ' W H → Q δ' → QV σ' H) → tv v σ H QV
def DGs (C : DC) (ts : List Expr) (t : TGDs) : Prop := ∃ tv : L2.TGs, PGs C.X ts tv ∧ ∀ xs vs δ σ W H (Q : Sl → Prop) (QV : L2.St → Hp → Prop), Sat C δ σ W H → DpAll C.X.K W.b vs xs → t xs δ Q → (∀ δ' σ', Sat C δ' σ' W H → Q δ' → QV σ' H) → tv vs σ H QV
def tgName (i : Nat) : TGD := fun s δ Q => Q (δ.set i (some s))
theorem dg_name {i : Nat} {x : Str} (hN : C.X.N.Nodup) (hi : C.X.N[i]? = some x) (hx : Loc C.X.env.scope x) (hf : C.X.fn x = true ∨ C.X.env.scope.names.lookup x = some .local := by first | exact .inl rfl | exact .inr rfl | assumption) : DG C (.Name x pos) (tgName i) :=
  ⟨_, pg_name hN hi hx hf, fun s v δ σ W H Q QV sat r ap q k => k _ _ (sat.set r fun p xs e => ⟨(ap p xs e).1, fun j ys _ => (ap p xs e).2 j ys⟩) q⟩
def tgNil : TGDs := fun xs δ Q => xs = [] ∧ Q δ
def tgCons (t : TGD) (u : TGDs) : TGDs := fun xs δ Q => ∃ x r, xs = x :: r ∧ t (.d x) δ fun δ' => u r δ' Q
theorem dgs_nil : DGs C [] tgNil := ⟨_, pgs_nil, fun xs vs δ σ W H Q QV sat r ⟨e, q⟩ k => by
  subst e
  cases r
  exact ⟨rfl, k δ σ sat q⟩⟩
theorem dgs_cons {e : Expr} {es : List Expr} {t : TGD} {u : TGDs} (h1 : DG C e t) (h2 : DGs C es u) (hs : (assignEach (e :: es) C.X.env).map (·.2) = assign e C.X.env :: (assignEach es C.X.env).map (·.2) := by rfl) : DGs C (e :: es) (tgCons t u) := by
  obtain ⟨tv, g1, g2⟩ := h1
  obtain ⟨tw, f1, f2⟩ := h2
  refine ⟨_, pgs_cons g1 f1 hs, fun xs vs δ σ W H Q QV sat r ⟨x, rr, e, q⟩ k => ?_⟩
  subst e
  cases r with
  | cons r1 r2 =>
    refine ⟨_, _, rfl, g2 (.d x) _ δ σ W H _ _ sat r1 (fun _ _ z => nomatch z) q fun δ' σ' s' q' => ?_⟩
    exact f2 rr _ δ' σ' W H Q QV s' r2 q' k
def tgTup (n : Nat) (t : TGDs) : TGD := fun s δ Q => ∃ xs, s = .d (.tuple xs) ∧ xs.length = n ∧ t xs δ Q
theorem dg_tup {es : List Expr} {k : Nat} {t : TGDs} {n : Nat} (hc : C.X.calm = true) (h : DGs C es t) (hn : (assignEach es C.X.env).length = n := by rfl) (hst : (assignEach es C.X.env).findIdx? (·.1) = none := by rfl) : DG C (.Tuple es k pos) (tgTup n t) := by
  obtain ⟨tv, g1, g2⟩ := h
  refine ⟨_, pg_tup hc g1 hn hst, fun s v δ σ W H Q QV sat r ap ⟨xs, e, hl, q⟩ k => ?_⟩
  subst e
  obtain ⟨a, vs, rfl, h1, h2⟩ := dp_tup_inv (show Dp C.X.K W.b v (.tuple xs) from r)
  exact ⟨a, vs, rfl, sqT_mono sat.ok.bH h1, by rw [dpAll_len h2]; exact hl, g2 xs vs δ σ W H Q QV sat h2 q k⟩
/-- name = e -/
def tsAsg (t : TD) (g : TGD) : TSD := fun D δ => t δ fun s => g s δ D.nx
theorem ds_set {i : Nat} {x : Str} {pos' : Pos} (hN : C.X.N.Nodup) (hi : C.X.N[i]? = some x) (hx : Loc C.X.env.scope x) (he : DE C e td) (hs : swapsWith e (some (.Name x pos')) pos.line C.X.env = pure false := by rfl) (hf : C.X.fn x = true ∨ C.X.env.scope.names.lookup x = some .local := by first | exact .inl rfl | exact .inr rfl | assumption) :
    DS C (.Assign [.Name x pos'] e pos) (tsAsg td (tgName i)) := by
  obtain ⟨tv, h1, h2⟩ := he
  exact ⟨_, ps_set hN hi hx h1 hs hf, fun δ σ W H D DV sat q ok => h2 δ σ W H _ _ sat q fun v W1 H1 s s1 st1 r1 f1 q1 => ok.nx _ _ W1 H1 (sat.setF s1 r1 f1) st1.b q1⟩
theorem ds_asg {tg : Expr} {g : TGD} (he : DE C e td) (hg : DG C tg g) (hs : swapsWithSole [tg] e pos.line C.X.env = pure false := by rfl) (hw : swappedStores [tg] e C.X.env = pure none := by rfl) (h1 : (assignEach [tg] C.X.env).map (·.2) = [assign tg C.X.env] := by rfl) :
    DS C (.Assign [tg] e pos) (tsAsg td g) := by
  obtain ⟨tv, k1, k2⟩ := he
  obtain ⟨tw, g1, g2⟩ := hg
  refine ⟨_, ps_asg k1 g1 hs hw h1, fun δ σ W H D DV sat q ok => k2 δ σ W H _ _ sat q fun v W1 H1 s s1 st1 r1 f1 q1 => ?_⟩
  exact g2 s v δ σ W1 H1 _ _ s1 r1 (fun p xs e => ⟨sat.entry (f1 p xs e), sat.apart (f1 p xs e)⟩) q1 fun δ' σ' s' q' => ok.nx δ' σ' W1 H1 s' st1.b q'
/-- a, b = e1, e2 with two plain local names -/
def tsPar (i j : Nat) (ta tb : TD) : TSD := fun D δ => ta δ fun s => tb δ fun z => D.nx ((δ.set i (some s)).set j (some z))
theorem ds_par {i j : Nat} {x y : Str} {tb' : TD} {px py pt : Pos} {kt k2 pt2} (hc : C.X.calm = true) (hN : C.X.N.Nodup) (hi : C.X.N[i]? = some x) (hj : C.X.N[j]? = some y) (hij : i ≠ j)
    (hx : C.X.env.scope.names.lookup x = some .local) (hy : C.X.env.scope.names.lookup y = some .local) (ha : DE C a td) (hb : DE C b tb')
    (hw : swappedStores [.Tuple [.Name x px, .Name y py] kt pt] (.Tuple [a, b] k2 pt2) C.X.env = pure (some [x, y]))
    (hs : swapsWithSole [.Tuple [.Name x px, .Name y py] kt pt] (.Tuple [a, b] k2 pt2) pos.line C.X.env = pure false := by rfl)
    (hs1 : starEach [a, b] C.X.env = (false, eval a C.X.env) :: starEach [b] C.X.env := by rfl) (hs2 : starEach [b] C.X.env = (false, eval b C.X.env) :: starEach [] C.X.env := by rfl) :
    DS C (.Assign [.Tuple [.Name x px, .Name y py] kt pt] (.Tuple [a, b] k2 pt2) pos) (tsPar i j td tb') := by
  obtain ⟨tv, h1, h2⟩ := ha
  obtain ⟨tw, g1, g2⟩ := hb
  refine ⟨_, ps_par hc hN hi hj hij hx hy (pa_cons h1 (pa_cons g1 pa_nil hs2) hs1) hw hs, fun δ σ W H D DV sat q ok => h2 δ σ W H _ _ sat q fun v W1 H1 s s1 st1 r1 f1 q1 => ?_⟩
  refine g2 δ σ W1 H1 _ _ s1 q1 fun z W2 H2 y' s2 st2 r2 f2 q2 => ?_
  refine ⟨v, z, rfl, ?_⟩
  refine ok.nx _ _ W2 H2 ?_ (BLe.trans st1.b st2.b) q2
  have r1' := r1.step st2
  have A := Sat.setF (i := i) sat s2 r1' f1
  refine A.set r2 fun p xs e => ⟨s1.entry (f2 p xs e), fun k ys hk e1 => ?_⟩
  have hp := f2 p xs e
  by_cases hki : i = k
  · subst hki
    have hl : i < (δ.set i (some s)).length := (List.getElem?_eq_some_iff.mp e1).1
    rw [List.length_set] at hl
    rw [List.getElem?_set_self hl] at e1
    cases e1
    obtain ⟨ev', vs, h', _⟩ := r1
    rw [hp] at h'
    cases h'
  · rw [List.getElem?_set_ne hki] at e1
    exact s1.apart hp k ys e1
/-- name op= e, ints -/
def tsAug (i : Nat) (t : TV) (d : D → D → (D → Prop) → Prop) : TSD := fun D δ => ∃ x, δ[i]? = some (some (.d x)) ∧ t δ fun y => d x y fun z => D.nx (δ.set i (some (.d z)))
theorem ds_aug {i : Nat} {x : Str} {pos' : Pos} {op : Operator} {ti : L2.TIp} {d : D → D → (D → Prop) → Prop} (hN : C.X.N.Nodup) (hi : C.X.N[i]? = some x) (hx : Loc C.X.env.scope x) (he : DV C e ta) (ho : PIp C.X op ti) (hd : DOp C ti d) (hf : C.X.fn x = true ∨ C.X.env.scope.names.lookup x = some .local := by first | exact .inl rfl | exact .inr rfl | assumption) :
    DS C (.AugAssign (.Name x pos') op e pos) (tsAug i ta d) := by
  obtain ⟨tv, h1, h2⟩ := he
  refine ⟨_, ps_aug hN hi hx h1 ho hf, fun δ σ W H D DV sat ⟨x0, e0, q⟩ ok => ?_⟩
  obtain ⟨v0, e1, r0⟩ := sat.sl i _ e0
  have r0 : Dp C.X.K W.b v0 x0 := r0
  refine ⟨v0, e1, h2 δ σ W H _ _ sat q fun v W1 H1 y s1 st1 r1 q1 => ?_⟩
  refine hd v0 v x0 y W1 H1 _ _ s1.ok (dp_mono st1.b r0) r1 q1 fun z W2 H2 dz w2 st2 r2 q2 => ?_
  exact ok.nx _ _ W2 H2 ((s1.go w2 st2).set (s := .d dz) r2 fun _ _ z => nomatch z) (BLe.trans st1.b st2.b) q2
theorem dop_ip {f : Int → Int → Int} : DOp C (ipI f) (dI (fun _ _ => True) f) := fun x y dx dy W H Q QV w rx ry q k => by
  cases rx <;> cases ry <;> first | exact False.elim q | skip
  exact ⟨_, _, rfl, rfl, k _ W H _ w (Step.refl W H) (.int _) q.2⟩
theorem ds_augAdd {i : Nat} {x : Str} {pos' : Pos} (hN : C.X.N.Nodup) (hi : C.X.N[i]? = some x) (hx : Loc C.X.env.scope x) (he : DV C e ta) (hf : C.X.fn x = true ∨ C.X.env.scope.names.lookup x = some .local := by first | exact .inl rfl | exact .inr rfl | assumption) :
    DS C (.AugAssign (.Name x pos') .Add e pos) (tsAug i ta (dI (fun _ _ => True) fun i j => i + j)) := ds_aug hN hi hx he ip_add dop_ip hf
theorem ds_augSub {i : Nat} {x : Str} {pos' : Pos} (hN : C.X.N.Nodup) (hi : C.X.N[i]? = some x) (hx : Loc C.X.env.scope x) (he : DV C e ta) (hf : C.X.fn x = true ∨ C.X.env.scope.names.lookup x = some .local := by first | exact .inl rfl | exact .inr rfl | assumption) :
    DS C (.AugAssign (.Name x pos') .Sub e pos) (tsAug i ta (dI (fun _ _ => True) fun i j => i - j)) := ds_aug hN hi hx he ip_sub dop_ip hf
/-! ### a list of one's own, given away: a slot becomes data -/
def frzAt (i : Nat) (δ : Sl) : Sl := match δ[i]? with
  | some (some (.own _ xs)) => δ.set i (some (.d (.list xs)))
  | _ => δ
/-- the own list at p in slot i is put into what stands for good -/
theorem Sat.frz1 {δ : Sl} {σ : L2.St} {W : Wd} {H : Hp} {i : Nat} {p : Addr} {xs : List D} (h : Sat C δ σ W H) (e : δ[i]? = some (some (S.own p xs))) : ∃ vs, H p = some (.lst vs) ∧ W.b p = none ∧ W.r p = none ∧ DpAll C.X.K W.b vs xs ∧ BLe W (W.put p (.lst vs)) ∧ Sat C (δ.set i (some (.d (.list xs)))) σ (W.put p (.lst vs)) H := by
  obtain ⟨v, e1, rfl, vs, h1, h2, h3, r⟩ := h.sl i _ e
  have h0 := h.new i p xs e
  have mono : ∀ b o, W.b b = some o → (W.put p (.lst vs)).b b = some o := fun b o e => by
    show upd W.b p _ b = some o
    rw [upd_ne (fun z => by rw [z, h2] at e; cases e)]
    exact e
  refine ⟨vs, h1, h2, h3, r, mono, ⟨⟨fun b o q => ?_, h.ok.rH, fun b o q => ?_, h.ok.res⟩, ⟨fun b o q => mono b o (h.step.b b o q), h.step.keep, fun b o q n => ?_, h.step.nr, h.step.th⟩, fun j s q => ?_, fun j k p2 xs ys e1 e2 => ?_, fun j p2 ys q1 => ?_, by rw [List.length_set]; exact h.len⟩⟩
  · by_cases z : b = p
    · have q' : upd W.b p (.lst vs) b = some o := q
      rw [z, upd_same] at q'
      rw [z, h1]
      exact q'
    · have q' : upd W.b p (.lst vs) b = some o := q
      rw [upd_ne z] at q'
      exact h.ok.bH b o q'
  · by_cases z : b = p
    · rw [z]
      exact h3
    · have q' : upd W.b p (.lst vs) b = some o := q
      rw [upd_ne z] at q'
      exact h.ok.dj b o q'
  · show upd W.b p _ b = none
    rw [upd_ne (fun z => by rw [z, h0] at q; cases q)]
    exact h.step.nb b o q n
  · by_cases z : i = j
    · subst z
      have hl : i < δ.length := (List.getElem?_eq_some_iff.mp e).1
      rw [List.getElem?_set_self hl] at q
      cases q
      exact ⟨_, e1, .lst (.inl (.inl upd_same)) (dpAll_mono mono r)⟩
    · rw [List.getElem?_set_ne z] at q
      obtain ⟨v2, e2, r2⟩ := h.sl j s q
      refine ⟨v2, e2, ?_⟩
      cases s with
      | d x => exact dp_mono mono r2
      | v x => exact r2
      | dic kvs => exact dicAt.mono r2 mono
      | own p2 ys =>
        obtain ⟨ev, vs2, k1, k2, k3, k4⟩ := r2
        have np : p2 ≠ p := fun y => z (h.ap i j p xs ys e (by rw [q, y]))
        exact ⟨ev, vs2, k1, by show upd W.b p _ p2 = none; rw [upd_ne np]; exact k2, k3, dpAll_mono mono k4⟩
  · by_cases zj : i = j
    · subst zj
      rw [List.getElem?_set_self (List.getElem?_eq_some_iff.mp e).1] at e1
      cases e1
    · by_cases zk : i = k
      · subst zk
        rw [List.getElem?_set_self (List.getElem?_eq_some_iff.mp e).1] at e2
        cases e2
      · rw [List.getElem?_set_ne zj] at e1
        rw [List.getElem?_set_ne zk] at e2
        exact h.ap j k p2 _ _ e1 e2
  · by_cases zj : i = j
    · subst zj
      rw [List.getElem?_set_self (List.getElem?_eq_some_iff.mp e).1] at q1
      cases q1
    · rw [List.getElem?_set_ne zj] at q1
      exact h.new j p2 ys q1
theorem Sat.frzAt {δ : Sl} {σ : L2.St} {W : Wd} {H : Hp} (i : Nat) (h : Sat C δ σ W H) : ∃ W', Sat C (frzAt i δ) σ W' H ∧ BLe W W' := by
  unfold DL.frzAt
  split
  · rename_i p xs e
    obtain ⟨vs, _, _, _, _, l, s⟩ := h.frz1 e
    exact ⟨_, s, l⟩
  · exact ⟨W, h, BLe.refl W⟩
/-- from here on slot i is data -/
def tsFrz (i : Nat) (t : TSD) : TSD := fun D δ => t D (frzAt i δ)
theorem dss_frz (i : Nat) (h : DSs C rest t) : DSs C rest (tsFrz i t) := by
  obtain ⟨ts, g1, g2⟩ := h
  refine ⟨ts, g1, fun δ σ W H D DV sat q ok => ?_⟩
  obtain ⟨W', s', l⟩ := sat.frzAt i
  exact g2 _ σ W' H D DV s' q (ok.on l)
theorem ds_frz (i : Nat) (h : DS C st t) : DS C st (tsFrz i t) := by
  obtain ⟨ts, g1, g2⟩ := h
  refine ⟨ts, g1, fun δ σ W H D DV sat q ok => ?_⟩
  obtain ⟨W', s', l⟩ := sat.frzAt i
  exact g2 _ σ W' H D DV s' q (ok.on l)

/-! ### a list of one's own, read for a while -/
mutual
def noList : D → Bool
  | .list _ => false
  | .dict _ => false
  | .tuple xs => noListAll xs
  | _ => true
def noListAll : List D → Bool
  | [] => true
  | x :: r => noList x && noListAll r
end
mutual
theorem dp_less {K : PySem.W.Frag} {H H' : Hp} (e : ∀ b xs, H b = some (.tup xs) → H' b = some (.tup xs)) (e2 : ∀ b o xs, H b = some (.frz o (.tup xs)) → H' b = some (.frz o (.tup xs))) : ∀ {v : V} {d : D}, Dp K H v d → noList d = true → Dp K H' v d
  | _, _, .non, _ => .non
  | _, _, .bl b, _ => .bl b
  | _, _, .int i, _ => .int i
  | _, _, .str x, _ => .str x
  | _, _, .lst h r, q => by simp [noList] at q
  | _, _, .tup h r, q => by
    refine .tup ?_ (dpAll_less e e2 r (by simpa [noList] using q))
    rcases h with (h | ⟨o, h⟩) | h
    · exact .inl (.inl (e _ _ h))
    · exact .inl (.inr ⟨o, e2 _ _ _ h⟩)
    · exact .inr h
theorem dpAll_less {K : PySem.W.Frag} {H H' : Hp} (e : ∀ b xs, H b = some (.tup xs) → H' b = some (.tup xs)) (e2 : ∀ b o xs, H b = some (.frz o (.tup xs)) → H' b = some (.frz o (.tup xs))) : ∀ {vs : List V} {ds : List D}, DpAll K H vs ds → noListAll ds = true → DpAll K H' vs ds
  | _, _, .nil, _ => .nil
  | _, _, .cons h r, q => by
    rw [noListAll, Bool.and_eq_true] at q
    exact .cons (dp_less e e2 h q.1) (dpAll_less e e2 r q.2)
end
theorem Sat.borrow {δ : Sl} {σ : L2.St} {W : Wd} {H : Hp} (i : Nat) (h : Sat C δ σ W H) : ∃ W', Sat C (DL.frzAt i δ) σ W' H ∧ ∀ W1 H1, Sat C (DL.frzAt i δ) σ W1 H1 → Step W' H W1 H1 →
    ∃ W2, Sat C δ σ W2 H1 ∧ Step W H W2 H1 ∧ ∀ v x, Dp C.X.K W1.b v x → noList x = true → Dp C.X.K W2.b v x := by
  unfold DL.frzAt
  split
  · rename_i p xs e
    obtain ⟨vs, h1, h2, h3, r, mono, F⟩ := h.frz1 e
    have h0 := h.new i p xs e
    refine ⟨W.put p (.lst vs), F, fun W1 H1 s1 st1 => ?_⟩
    have b1 : W1.b p = some (.lst vs) := st1.b p _ (by show upd W.b p _ p = _; rw [upd_same])
    have r1 : W1.r p = none := st1.nr p _ h1 h3
    have hp1 : H1 p = some (.lst vs) := s1.ok.bH p _ b1
    -- W1 without p
    let B2 : Hp := fun a => if a = p then none else W1.b a
    have B2ne : ∀ a, a ≠ p → B2 a = W1.b a := fun a z => if_neg z
    have B2p : B2 p = none := if_pos rfl
    have le : ∀ b o, W.b b = some o → B2 b = some o := fun b o q => by
      have nb : b ≠ p := fun z => by rw [z, h2] at q; cases q
      rw [B2ne b nb]
      exact st1.b b o (mono b o q)
    have stp : Step W H ⟨B2, W1.r⟩ H1 := ⟨le, fun b o q n => st1.keep b o q n, fun b o q n => by
      show B2 b = none
      by_cases z : b = p
      · rw [z]; exact B2p
      · rw [B2ne b z]
        exact st1.nb b o q (by show upd W.b p _ b = none; rw [upd_ne z]; exact n), fun b o q n => st1.nr b o q n, st1.th⟩
    refine ⟨⟨B2, W1.r⟩, ?_, stp, fun v x r q => ?_⟩
    · refine h.go ⟨fun b o q => ?_, s1.ok.rH, fun b o q => ?_, s1.ok.res⟩ stp
      · have nb : b ≠ p := fun z => by rw [z, show (⟨B2, W1.r⟩ : Wd).b p = none from B2p] at q; cases q
        exact s1.ok.bH b o ((B2ne b nb).symm.trans q)
      · have nb : b ≠ p := fun z => by rw [z, show (⟨B2, W1.r⟩ : Wd).b p = none from B2p] at q; cases q
        exact s1.ok.dj b o ((B2ne b nb).symm.trans q)
    · refine dp_less (H' := B2) (fun b ys q => ?_) (fun b o ys q => ?_) r q
      · rw [B2ne b (fun z => by rw [z, b1] at q; cases q)]
        exact q
      · rw [B2ne b (fun z => by rw [z, b1] at q; cases q)]
        exact q
  · exact ⟨W, h, fun W1 H1 s1 st1 => ⟨W1, s1, st1, fun _ _ r _ => r⟩⟩
def tvBor (i : Nat) (t : TV) : TV := fun δ Q => t (frzAt i δ) fun x => noList x = true ∧ Q x
def tbBor (i : Nat) (t : TB) : TB := fun δ Q => t (frzAt i δ) Q
theorem dv_bor (i : Nat) (h : DV C e ta) : DV C e (tvBor i ta) := by
  obtain ⟨tv, h1, h2⟩ := h
  refine ⟨tv, h1, fun δ σ W H Q QV sat q k => ?_⟩
  obtain ⟨W', s', back⟩ := sat.borrow i
  refine h2 _ σ W' H _ QV s' q fun v W1 H1 x s1 st1 r1 q1 => ?_
  obtain ⟨W2, s2, st2, f⟩ := back W1 H1 s1 st1
  exact k v W2 H1 x s2 st2 (f v x r1 q1.1) q1.2
theorem dt_bor (i : Nat) {t : TB} (h : DT C e t) : DT C e (tbBor i t) := by
  obtain ⟨tv, h1, h2⟩ := h
  refine ⟨tv, h1, fun δ σ W H Q QV sat q k => ?_⟩
  obtain ⟨W', s', back⟩ := sat.borrow i
  refine h2 _ σ W' H _ QV s' q fun b W1 H1 s1 st1 q1 => ?_
  obtain ⟨W2, s2, st2, f⟩ := back W1 H1 s1 st1
  exact k b W2 H1 s2 st2 q1
end
end DL

-- part DLf
namespace DL
open PySem PySem.Spec PyProof.Rows L2
/-- a list of one's own is changed -/
theorem Sat.mut {C : DC} {δ : Sl} {σ : L2.St} {W : Wd} {H : Hp} {i : Nat} {xs ys : List D} {p : Addr} {vs' : List V} (h : Sat C δ σ W H) (e : δ[i]? = some (some (S.own p xs))) (hb : W.b p = none) (hr : W.r p = none)
    (r : DpAll C.X.K W.b vs' ys) : Sat C (δ.set i (some (.own p ys))) σ W (upd H p (.lst vs')) := by
  have h0 := h.new i p xs e
  have hl : i < δ.length := (List.getElem?_eq_some_iff.mp e).1
  have step : Step C.W0 C.H0 W (upd H p (.lst vs')) := ⟨h.step.b, fun a o q n => by
    rw [upd_ne (fun z => by rw [z, h0] at q; cases q)]
    exact h.step.keep a o q n, h.step.nb, h.step.nr, fun a o q => by
    obtain ⟨o', q'⟩ := h.step.th a o q
    exact ⟨o', by rw [upd_ne (fun z => by rw [z, h0] at q; cases q)]; exact q'⟩⟩
  refine ⟨h.ok.lay hb hr, step, fun j s q => ?_, fun j k p2 as bs q1 q2 => ?_, fun j p2 as q1 => ?_, by rw [List.length_set]; exact h.len⟩
  · by_cases z : i = j
    · subst z
      rw [List.getElem?_set_self hl] at q
      cases q
      obtain ⟨v, e1, ev, _⟩ := h.sl i _ e
      exact ⟨v, e1, ev, vs', upd_same, hb, hr, r⟩
    · rw [List.getElem?_set_ne z] at q
      obtain ⟨v, q1, q2⟩ := h.sl j s q
      refine ⟨v, q1, ?_⟩
      cases s with
      | d x => exact q2
      | v x => exact q2
      | dic kvs => exact q2
      | own p2 as =>
        obtain ⟨ev, ws, k1, k2, k3, k4⟩ := q2
        have np : p2 ≠ p := fun y => z (h.ap i j p xs as e (by rw [q, y]))
        exact ⟨ev, ws, by rw [upd_ne np]; exact k1, k2, k3, k4⟩
  · by_cases zj : i = j
    · by_cases zk : i = k
      · exact zj.symm.trans zk
      · subst zj
        rw [List.getElem?_set_self hl] at q1
        rw [List.getElem?_set_ne zk] at q2
        cases q1
        exact h.ap i k p xs bs e q2
    · by_cases zk : i = k
      · subst zk
        rw [List.getElem?_set_ne zj] at q1
        rw [List.getElem?_set_self hl] at q2
        cases q2
        exact h.ap j i p as xs q1 e
      · rw [List.getElem?_set_ne zj] at q1
        rw [List.getElem?_set_ne zk] at q2
        exact h.ap j k p2 as bs q1 q2
  · by_cases zj : i = j
    · subst zj
      rw [List.getElem?_set_self hl] at q1
      cases q1
      exact h0
    · rw [List.getElem?_set_ne zj] at q1
      exact h.new j p2 as q1
section
variable {X : Cx}
/-- l.remove(y): the first equal one goes -/
def rRemD (K : PySem.W.Frag) : V → List V → Hp → VK → Prop := fun x xs H Q => ∃ (a : Addr) (y : V) (d : PyData) (vs : List V) (ds : List PyData) (j : Nat), x = V.ref a ∧ xs = [y] ∧ H a = some (.lst vs) ∧ DpAll K H vs ds ∧ Dp K H y d ∧
  PyData.plainAll ds = true ∧ d.plain = true ∧ d.depth ≤ 60 ∧ SeqAt.dataPlace ds d = some j ∧ Q .non (upd H a (.lst (vs.eraseIdx j)))
theorem vals_eraseIdx : ∀ {vs : List V} {us : List Value} (j : Nat), Vals vs us → Vals (vs.eraseIdx j) (us.eraseIdx j)
  | _, _, _, .nil => .nil
  | _, _, 0, .cons _ t => t
  | _, _, j + 1, .cons r t => .cons r (vals_eraseIdx j t)
theorem mt_removeD (hu : X.A.units + 64 < cLine) : MtR X "list.remove" (rRemD X.K) := by
  intro pins s σ H x xs v us Q I rx rxs h
  obtain ⟨a, y, d, vs, ds, j, rfl, rfl, hH, ha, hy, pl, pd, dd, hj, q⟩ := h
  cases rx
  cases rxs with
  | cons ry rt =>
    rename_i uy ut
    cases rt
    obtain ⟨bs, r1⟩ := Dp.reads I d y uy hy ry
    obtain ⟨z, its, n, r, hl, e⟩ := I.lstM hH
    obtain ⟨as, h4⟩ := Dp.readsAll I ds _ its ha r
    refine SeqAt.remove_list_data (vs := its.toArray) ⟨_, e, rfl, n, rfl⟩ (show ReadsAll s.heap its.toArray.toList ds as from h4) r1 pl pd ?_ hj (by rw [List.size_toArray, ← hl]; exact z) ?_
    · have : min (PyData.depthAll ds) d.depth ≤ d.depth := Nat.min_le_right _ _
      omega
    · refine ⟨.non, _, I.lset (its' := its.eraseIdx j) hH e (by simp) (vals_eraseIdx j r) ?_, rfl, q⟩
      have := List.length_eraseIdx_le vs j
      omega
end
theorem dpAll_eraseIdx {K : PySem.W.Frag} {H : Hp} : ∀ {vs : List V} {ds : List D} (j : Nat), DpAll K H vs ds → DpAll K H (vs.eraseIdx j) (ds.eraseIdx j)
  | _, _, _, .nil => .nil
  | _, _, 0, .cons _ r => r
  | _, _, j + 1, .cons h r => .cons h (dpAll_eraseIdx j r)
theorem dpAll_set {K : PySem.W.Frag} {H : Hp} {v : V} {x : D} (q : Dp K H v x) : ∀ {vs : List V} {ds : List D} (j : Nat), DpAll K H vs ds → DpAll K H (vs.set j v) (ds.set j x)
  | _, _, _, .nil => .nil
  | _, _, 0, .cons _ r => .cons q r
  | _, _, j + 1, .cons h r => .cons h (dpAll_set q j r)
section
variable {C : DC} {a b c e : Expr} {es : List Expr} {ta tb tc : TV} {td te : TD} {tr : TAr} {pos p apos cpos : Pos} {st : Stmt} {rest : List Stmt} {t u : TSD} {x : Str}
/-! ### methods that change a list of one's own -/
/-- the own list in slot i, as it stands -/
theorem Sat.own {δ : Sl} {σ : L2.St} {W : Wd} {H : Hp} {i : Nat} {p : Addr} {xs : List D} (h : Sat C δ σ W H) (e : δ[i]? = some (some (S.own p xs))) : ∃ vs, σ[i]? = some (some (V.ref p)) ∧ H p = some (.lst vs) ∧ W.b p = none ∧ W.r p = none ∧ DpAll C.X.K W.b vs xs := by
  obtain ⟨v, e1, rfl, vs, h1, h2, h3, h4⟩ := h.sl i _ e
  exact ⟨vs, e1, h1, h2, h3, h4⟩
def tsM1 (i : Nat) (d : List D → D → (List D → Prop) → Prop) (t : TV) : TSD := fun E δ => ∃ p xs, δ[i]? = some (some (.own p xs)) ∧ t δ fun y => d xs y fun ys => E.nx (δ.set i (some (.own p ys)))
/-- a method call on the own list in slot i with one argument -/
theorem ds_meth1 {name : Str} {id : String} {r : V → List V → Hp → VK → Prop} (i : Nat) (d : List D → D → (List D → Prop) → Prop) (slot : Slot "list" name id) (hty : typeOf (.builtin id) = pure (.type "method_descriptor")) (hm : MtR C.X id r)
    (hd : ∀ (p : Addr) (vs : List V) (xs : List D) (v : V) (y : D) (W : Wd) (H : Hp) (Q : List D → Prop) (QV : VK), WOk C.ρ W H → H p = some (.lst vs) → W.b p = none → W.r p = none → DpAll C.X.K W.b vs xs → Dp C.X.K W.b v y → d xs y Q →
      (∀ w vs' ys, DpAll C.X.K W.b vs' ys → Q ys → QV w (upd H p (.lst vs'))) → r (.ref p) [v] H QV)
    (he : DV C e ta) (hN : C.X.N[i]? = some x := by rfl) (hv : Vis C.X.env.scope x := by first | exact Or.inl rfl | exact Or.inr (Or.inl rfl) | exact Or.inr (Or.inr rfl)) (hdb : (x == ("__debug__" : Str)) = false := by decide) (hcd : (x == ("__classdict__" : Str)) = false := by decide)
    (hbase : attributeBase (.Name x p) name C.X.env (eval (.Name x p) C.X.env) = eval (.Name x p) C.X.env := by rfl)
    (hfew : ((backTo cpos (starEach [e] C.X.env)).all (fun x => !x.1) && (backToKw cpos (keywordEach [] C.X.env)).all (fun x => x.1.isSome)
      && decide (([e] : List Expr).length + ([] : List Keyword).length + (if ([] : List Keyword).isEmpty then 0 else 1) < 30)) = true := by rfl)
    (hline : (apos.endLine == cpos.line) = true := by rfl) (hs : starEach [e] C.X.env = (false, eval e C.X.env) :: starEach [] C.X.env := by rfl) (hplain : (backTo cpos (starEach [] C.X.env)).any (·.1) = false := by rfl)
    (hsw : swapsWith (.Call (.Attribute (.Name x p) name apos) [e] [] cpos) none pos.line C.X.env = pure false := by rfl) :
    DS C (.Expr (.Call (.Attribute (.Name x p) name apos) [e] [] cpos) pos) (tsM1 i d ta) := by
  obtain ⟨tv, h1, h2⟩ := he
  refine ⟨_, ps_expr (pe_bm PySem.F.plainAttrs_list slot hty hm (pe_var (i := i) hN hv hdb hcd) (pa_cons h1 pa_nil hs) hbase hfew hline hs hplain) hsw, fun δ σ W H D DV sat q ok => ?_⟩
  obtain ⟨p0, xs, e, q⟩ := q
  obtain ⟨vs0, e1, k1, k2, k3, k4⟩ := sat.own e
  refine ⟨.ref p0, e1, .inl ⟨rfl, _, .inl (.inl k1)⟩, ?_⟩
  refine h2 δ σ W H _ _ sat q fun v W1 H1 y s1 st1 r1 q1 => ?_
  obtain ⟨vs, f1, g1, g2, g3, g4⟩ := s1.own e
  refine hd p0 vs xs v y W1 H1 _ _ s1.ok g1 g2 g3 g4 r1 q1 fun w vs' ys rr q2 => ?_
  exact ok.nx _ σ W1 _ (s1.mut e g2 g3 rr) st1.b q2
def dApp : List D → D → (List D → Prop) → Prop := fun xs y Q => xs.length < sizeLine ∧ Q (xs ++ [y])
theorem ds_append (i : Nat) (he : DV C e ta) (hN : C.X.N[i]? = some x := by rfl) (hv : Vis C.X.env.scope x := by first | exact Or.inl rfl | exact Or.inr (Or.inl rfl) | exact Or.inr (Or.inr rfl)) (hdb : (x == ("__debug__" : Str)) = false := by decide) (hcd : (x == ("__classdict__" : Str)) = false := by decide)
    (hbase : attributeBase (.Name x p) "append" C.X.env (eval (.Name x p) C.X.env) = eval (.Name x p) C.X.env := by rfl)
    (hfew : ((backTo cpos (starEach [e] C.X.env)).all (fun x => !x.1) && (backToKw cpos (keywordEach [] C.X.env)).all (fun x => x.1.isSome)
      && decide (([e] : List Expr).length + ([] : List Keyword).length + (if ([] : List Keyword).isEmpty then 0 else 1) < 30)) = true := by rfl)
    (hline : (apos.endLine == cpos.line) = true := by rfl) (hs : starEach [e] C.X.env = (false, eval e C.X.env) :: starEach [] C.X.env := by rfl) (hplain : (backTo cpos (starEach [] C.X.env)).any (·.1) = false := by rfl)
    (hsw : swapsWith (.Call (.Attribute (.Name x p) "append" apos) [e] [] cpos) none pos.line C.X.env = pure false := by rfl) :
    DS C (.Expr (.Call (.Attribute (.Name x p) "append" apos) [e] [] cpos) pos) (tsM1 i dApp ta) :=
  ds_meth1 i dApp PySem.F.slot_list_append PySem.F.type_list_append mt_append (fun p vs xs v y W H Q QV w h1 h2 h3 r1 r2 ⟨hz, q⟩ k =>
    ⟨p, vs, v, rfl, rfl, h1, by rw [dpAll_len r1]; exact hz, k .non (vs ++ [v]) (xs ++ [y]) (dpAll_append r1 (.cons r2 .nil)) q⟩) he hN hv hdb hcd hbase hfew hline hs hplain hsw
def dRem : List D → D → (List D → Prop) → Prop := fun xs y Q => PyData.plainAll xs = true ∧ y.plain = true ∧ y.depth ≤ 60 ∧ ∃ j, SeqAt.dataPlace xs y = some j ∧ Q (xs.eraseIdx j)
theorem ds_remove {n : Nat} (i : Nat) (hr : Room n C.X.A) (he : DV C e ta) (hN : C.X.N[i]? = some x := by rfl) (hv : Vis C.X.env.scope x := by first | exact Or.inl rfl | exact Or.inr (Or.inl rfl) | exact Or.inr (Or.inr rfl)) (hdb : (x == ("__debug__" : Str)) = false := by decide) (hcd : (x == ("__classdict__" : Str)) = false := by decide)
    (hbase : attributeBase (.Name x p) "remove" C.X.env (eval (.Name x p) C.X.env) = eval (.Name x p) C.X.env := by rfl)
    (hfew : ((backTo cpos (starEach [e] C.X.env)).all (fun x => !x.1) && (backToKw cpos (keywordEach [] C.X.env)).all (fun x => x.1.isSome)
      && decide (([e] : List Expr).length + ([] : List Keyword).length + (if ([] : List Keyword).isEmpty then 0 else 1) < 30)) = true := by rfl)
    (hline : (apos.endLine == cpos.line) = true := by rfl) (hs : starEach [e] C.X.env = (false, eval e C.X.env) :: starEach [] C.X.env := by rfl) (hplain : (backTo cpos (starEach [] C.X.env)).any (·.1) = false := by rfl)
    (hsw : swapsWith (.Call (.Attribute (.Name x p) "remove" apos) [e] [] cpos) none pos.line C.X.env = pure false := by rfl) :
    DS C (.Expr (.Call (.Attribute (.Name x p) "remove" apos) [e] [] cpos) pos) (tsM1 i dRem ta) :=
  ds_meth1 i dRem PySem.F.slot_list_remove PySem.F.type_list_remove (mt_removeD hr.units) (fun p vs xs v y W H Q QV w h1 h2 h3 r1 r2 ⟨pl, pd, dd, j, hj, q⟩ k =>
    ⟨p, v, y, vs, xs, j, rfl, rfl, h1, dpAll_mono w.bH r1, dp_mono w.bH r2, pl, pd, dd, hj, k .non _ _ (dpAll_eraseIdx j r1) q⟩) he hN hv hdb hcd hbase hfew hline hs hplain hsw
/-! ### what is walked -/
def ItOk (C : DC) (J : It) (items : List D) (W1 : Wd) : Prop := ∀ W H, WOk C.ρ W H → BLe W1 W →
  (∀ (i : Nat) (x : D), items[i]? = some x → J.go i H ∧ ∀ v H', J.yld i H v H' → ∃ W', WOk C.ρ W' H' ∧ Step W H W' H' ∧ Dp C.X.K W'.b v x) ∧ J.stop items.length H
abbrev TID := Sl → (List D → Prop) → Prop
def DI (C : DC) (tg iter : Expr) (wi : TID) : Prop := ∃ tv : L2.TI, PI C.X tg iter tv ∧ ∀ δ σ W H (Q : List D → Prop) (R : It → Hp → Prop), Sat C δ σ W H → wi δ Q →
  (∀ J items W' H', Sat C δ σ W' H' → Step W H W' H' → ItOk C J items W' → items.length ≤ 2 ^ 62 → Q items → R J H') → tv σ H R
/-- a list, a tuple, a text -/
def iSeq (K : PySem.W.Frag) (tl : TE) : L2.TI := fun σ H R => tl σ H fun x H1 => (∃ a, x = .ref a ∧ (((∃ xs, SqL K H1 a xs) ∧ R (Itl K a) H1) ∨ ((∃ xs, SqT K H1 a xs) ∧ R (Itt K a) H1))) ∨ ∃ z, x = .str z ∧ R (Its z) H1
theorem pi_seq {X : Cx} {tg l : Expr} {tl : TE} (hl : PE X l tl) : PI X tg l (iSeq X.K tl) := by
  refine ⟨fun pins s σ H R I h => ?_⟩
  refine thn (hl.run pins s σ H _ I h) fun v s1 ⟨x, H1, I1, r1, q1⟩ => ?_
  rcases q1 with ⟨a, e, ⟨⟨xs, hq⟩, q⟩ | ⟨⟨xs, hq⟩, q⟩⟩ | ⟨z, e, q⟩
  · subst e
    cases r1
    obtain ⟨its, rv, p, hz⟩ := I1.list hq
    refine wpAny_pyIter_list p.isList ?_
    refine ⟨s1.heap.objs.size, [s1.heap.objs.size], _, _, H1, rfl, I1.kept (t' := s1.toks) fun b o e => Heap.get?_push_of_some _ e, turn_list a _, ⟨_, Heap.get?_push_size _ rfl, rfl, rfl⟩, fun b hb => ?_, q⟩
    have e : b = s1.heap.objs.size := by simpa using hb
    subst e
    exact I1.fpOk (Nat.le_refl _) (I1.hok.fresh (Nat.le_refl _))
  · subst e
    cases r1
    obtain ⟨its, rv, p, hz⟩ := I1.tuple hq
    refine wpAny_pyIter_tuple (show s1.heap.IsTuple a its.toArray from p) ?_
    refine ⟨s1.heap.objs.size, [s1.heap.objs.size], _, _, H1, rfl, I1.kept (t' := s1.toks) fun b o e => Heap.get?_push_of_some _ e, turn_tuple a _, ⟨_, Heap.get?_push_size _ rfl, rfl, rfl⟩, fun b hb => ?_, q⟩
    have e : b = s1.heap.objs.size := by simpa using hb
    subst e
    exact I1.fpOk (Nat.le_refl _) (I1.hok.fresh (Nat.le_refl _))
  · subst e
    obtain ⟨t, rfl⟩ := r1
    cases ha : z.cps.all (· < 128)
    · exact wpAny_pyIter_wide ha (pi_one (tk := s1.toks) I1 _ (turn_str _ z t "str_iterator" (.inr rfl)) ⟨_, Heap.get?_push_size _ rfl, rfl, rfl⟩ q)
    · exact wpAny_pyIter_ascii ha (pi_one (tk := s1.toks) I1 _ (turn_str _ z t "str_ascii_iterator" (.inl rfl)) ⟨_, Heap.get?_push_size _ rfl, rfl, rfl⟩ q)
/-- what a walk over data gives -/
def itemsD : D → Option (List D)
  | .list xs => some xs
  | .tuple xs => some xs
  | .str z => some (z.cps.toList.map fun c => .str ⟨#[c]⟩)
  | _ => none
def tiSeq (t : TV) : TID := fun δ Q => t δ fun x => ∃ xs, itemsD x = some xs ∧ xs.length ≤ 2 ^ 62 ∧ Q xs
theorem itOk_list {W1 : Wd} {a : Addr} {vs : List V} {xs : List D} (h : SqL C.X.K W1.b a vs) (r : DpAll C.X.K W1.b vs xs) : ItOk C (Itl C.X.K a) xs W1 := fun W H w l => by
  have h' := sqL_mono w.bH (sqL_mono l h)
  refine ⟨fun i x e => ?_, ⟨vs, h', by rw [dpAll_len r]; exact Nat.le_refl _⟩⟩
  obtain ⟨v, e1, r1⟩ := dpAll_get r e
  refine ⟨⟨vs, v, h', e1⟩, fun u H' y => ?_⟩
  obtain ⟨eH, y⟩ := y
  have e2 := y vs h'
  rw [e1] at e2
  cases e2
  subst eH
  exact ⟨W, w, Step.refl W _, dp_mono l r1⟩
theorem itOk_tup {W1 : Wd} {a : Addr} {vs : List V} {xs : List D} (h : SqT C.X.K W1.b a vs) (r : DpAll C.X.K W1.b vs xs) : ItOk C (Itt C.X.K a) xs W1 := fun W H w l => by
  have h' := sqT_mono w.bH (sqT_mono l h)
  refine ⟨fun i x e => ?_, ⟨vs, h', by rw [dpAll_len r]; exact Nat.le_refl _⟩⟩
  obtain ⟨v, e1, r1⟩ := dpAll_get r e
  refine ⟨⟨vs, v, h', e1⟩, fun u H' y => ?_⟩
  obtain ⟨eH, y⟩ := y
  have e2 := y vs h'
  rw [e1] at e2
  cases e2
  subst eH
  exact ⟨W, w, Step.refl W _, dp_mono l r1⟩
theorem itOk_str {W1 : Wd} {z : Str} : ItOk C (Its z) (z.cps.toList.map fun c => .str ⟨#[c]⟩) W1 := fun W H w l => by
  refine ⟨fun i x e => ?_, ?_⟩
  · rw [List.getElem?_map] at e
    cases q : z.cps.toList[i]? with
    | none => rw [q] at e; cases e
    | some c =>
      rw [q] at e
      cases e
      have hq : z.cps[i]? = some c := by simpa using q
      refine ⟨(Array.getElem?_eq_some_iff.mp hq).1, fun u H' y => ?_⟩
      obtain ⟨eH, c', e1, e2⟩ := y
      rw [hq] at e1
      cases e1
      subst eH e2
      exact ⟨W, w, Step.refl W _, .str _⟩
  · show z.cps.size ≤ _
    rw [List.length_map, Array.length_toList]
    exact Nat.le_refl _
theorem di_seq {tg : Expr} (h : DV C e ta) : DI C tg e (tiSeq ta) := by
  obtain ⟨tv, h1, h2⟩ := h
  refine ⟨_, pi_seq h1, fun δ σ W H Q R sat q k => h2 δ σ W H _ _ sat q fun v W1 H1 x s1 st1 r1 ⟨xs, e, hz, q1⟩ => ?_⟩
  cases x with
  | list ys =>
    cases e
    obtain ⟨a, vs, rfl, k1, k2⟩ := dp_list_inv r1
    exact .inl ⟨a, rfl, .inl ⟨⟨vs, sqL_mono s1.ok.bH k1⟩, k _ _ W1 H1 s1 st1 (itOk_list k1 k2) hz q1⟩⟩
  | tuple ys =>
    cases e
    obtain ⟨a, vs, rfl, k1, k2⟩ := dp_tup_inv r1
    exact .inl ⟨a, rfl, .inr ⟨⟨vs, sqT_mono s1.ok.bH k1⟩, k _ _ W1 H1 s1 st1 (itOk_tup k1 k2) hz q1⟩⟩
  | str z =>
    cases e
    cases r1
    exact .inr ⟨z, rfl, k _ _ W1 H1 s1 st1 itOk_str hz q1⟩
  | _ => cases e
/-- lo, lo + 1, .. -/
def rng (lo : Int) (n : Nat) : List D := (List.range n).map fun i => .int (lo + (i : Nat))
theorem itOk_rng {W1 : Wd} {lo : Int} {n : Nat} : ItOk C (Itr lo n) (rng lo n) W1 := fun W H w l => by
  refine ⟨fun i x e => ?_, ?_⟩
  · unfold rng at e
    rw [List.getElem?_map] at e
    cases q : (List.range n)[i]? with
    | none => rw [q] at e; cases e
    | some j =>
      rw [q] at e
      cases e
      obtain ⟨hi, hj⟩ := List.getElem?_eq_some_iff.mp q
      rw [List.length_range] at hi
      rw [List.getElem_range] at hj
      subst hj
      refine ⟨hi, fun u H' y => ?_⟩
      obtain ⟨eH, eu⟩ := y
      subst eH eu
      exact ⟨W, w, Step.refl W _, .int _⟩
  · show n ≤ _
    unfold rng
    rw [List.length_map, List.length_range]
    exact Nat.le_refl _
def tiRng1 (t : TV) : TID := fun δ Q => t δ fun x => ∃ n : Int, x = .int n ∧ -(2 ^ 62) ≤ n ∧ n < 2 ^ 62 ∧ Q (rng 0 n.toNat)
theorem rng_len (lo : Int) (n : Nat) : (rng lo n).length = n := by unfold rng; rw [List.length_map, List.length_range]
theorem di_range1 {tg : Expr} (hm : C.X.mg "range" = none) (h : DV C a ta) (hg : Gl C.X "range" := by rfl) (hs : starEach [a] C.X.env = [(false, eval a C.X.env)] := by rfl) : DI C tg (.Call (.Name "range" p) [a] [] pos) (tiRng1 ta) := by
  obtain ⟨tv, h1, h2⟩ := h
  refine ⟨_, pi_range1 hg hm (pa_cons h1 pa_nil hs) hs, fun δ σ W H Q R sat q k => h2 δ σ W H _ _ sat q fun v W1 H1 x s1 st1 r1 ⟨n, e, hn1, hn2, q1⟩ => ?_⟩
  subst e
  cases r1
  exact ⟨n, rfl, hn1, hn2, k _ _ W1 H1 s1 st1 itOk_rng (by rw [rng_len]; omega) q1⟩
def tiRng2 (ta tb : TV) : TID := fun δ Q => ta δ fun x => tb δ fun y => ∃ m n : Int, x = .int m ∧ y = .int n ∧ (-(2 ^ 60) ≤ m ∧ m < 2 ^ 60 ∧ -(2 ^ 60) ≤ n ∧ n < 2 ^ 60) ∧ Q (rng m (n - m).toNat)
theorem di_range2 {tg : Expr} (hm : C.X.mg "range" = none) (h : DV C a ta) (h' : DV C b tb) (hg : Gl C.X "range" := by rfl) (hs : starEach [a, b] C.X.env = [(false, eval a C.X.env), (false, eval b C.X.env)] := by rfl) (hs2 : starEach [b] C.X.env = [(false, eval b C.X.env)] := by rfl) :
    DI C tg (.Call (.Name "range" p) [a, b] [] pos) (tiRng2 ta tb) := by
  obtain ⟨tv, h1, h2⟩ := h
  obtain ⟨tw, g1, g2⟩ := h'
  refine ⟨_, pi_range2 hg hm (pa_cons h1 (pa_cons g1 pa_nil hs2) (by rw [hs, hs2])) hs hs2, fun δ σ W H Q R sat q k => h2 δ σ W H _ _ sat q fun v W1 H1 x s1 st1 r1 q1 => ?_⟩
  refine g2 δ σ W1 H1 _ _ s1 q1 fun u W2 H2 y s2 st2 r2 ⟨m, n, ex, ey, ⟨b1, b2, b3, b4⟩, q2⟩ => ?_
  subst ex ey
  cases r1
  cases r2
  refine ⟨m, n, rfl, ⟨by omega, by omega, by omega, by omega⟩, k _ _ W2 H2 s2 (st1.trans st2) itOk_rng (by rw [rng_len]; omega) q2⟩
/-! ### for, while -/
def forWP (g : TGD) (tb : TSD) (E : EndsD) : List D → Sl → Prop
  | [], δ => E.nx δ
  | x :: r, δ => g (.d x) δ fun δ' => tb { E with nx := forWP g tb E r, ct := forWP g tb E r, bk := E.nx } δ'
def tsFor (wi : TID) (g : TGD) (tb : TSD) : TSD := fun E δ => wi δ fun items => forWP g tb E items δ
theorem drop_get {α : Type} {xs : List α} {i : Nat} {x : α} (h : xs[i]? = some x) : xs.drop i = x :: xs.drop (i + 1) := by
  obtain ⟨hi, e⟩ := List.getElem?_eq_some_iff.mp h
  rw [List.drop_eq_getElem_cons hi, e]
theorem ds_for {tg : Expr} {wi : TID} {g : TGD} {tb : TSD} {body : List Stmt} (hp : PassesOwn (model C.X.prog C.X.w) C.X.A C.X.env C.X.xe) (hc : C.X.calm = true) (hi : DI C tg e wi) (hg : DG C tg g) (hb : DSs C body tb)
    (hs : ∀ x, foldedSetIterable e C.X.env x = pure x := by intro _; rfl) : DS C (.For tg e body [] pos) (tsFor wi g tb) := by
  obtain ⟨tw, i1, i2⟩ := hi
  obtain ⟨tg', g1, g2⟩ := hg
  obtain ⟨ts, b1, b2⟩ := hb
  refine ⟨_, ps_for hp hc i1 g1 b1 hs, fun δ σ W H D DV sat q ok => i2 δ σ W H _ _ sat q fun J items W1 H1 s1 st1 it hlen q1 => ?_⟩
  refine ⟨fun i m σ' H' => m = items.length - i ∧ i ≤ items.length ∧ ∃ δ' W', Sat C δ' σ' W' H' ∧ BLe W1 W' ∧ forWP g tb D (items.drop i) δ', ⟨items.length, by simp, Nat.zero_le _, δ, W1, s1, BLe.refl W1, by simpa using q1⟩, ?_⟩
  rintro i m σ' H' ⟨rfl, hi, δ', W', s', l', q'⟩
  obtain ⟨go, stop⟩ := it W' H' s'.ok l'
  by_cases hlt : i < items.length
  · have ex : items[i]? = some items[i] := List.getElem?_eq_getElem hlt
    obtain ⟨go1, go2⟩ := go i items[i] ex
    rw [drop_get ex] at q'
    refine .inr ⟨go1, fun σ2 H2 => ∃ δ2 W2, Sat C δ2 σ2 W2 H2 ∧ BLe W1 W2 ∧ forWP g tb D (items.drop (i + 1)) δ2, fun σ2 H2 ⟨δ2, W2, s2, l2, q2⟩ => ⟨items.length - (i + 1), by omega, rfl, hlt, δ2, W2, s2, l2, q2⟩, fun v H2 y => ?_⟩
    obtain ⟨W2, w2, st2, r2⟩ := go2 v H2 y
    have s2 := s'.go w2 st2
    refine g2 (.d items[i]) v δ' σ' W2 H2 _ _ s2 r2 (fun _ _ z => nomatch z) q' fun δ3 σ3 s3 q3 => ?_
    have l3 : BLe W1 W2 := l'.trans st2.b
    exact b2 δ3 σ3 W2 H2 _ _ s3 q3 ⟨fun δ4 σ4 W4 H4 s4 l4 q4 => ⟨δ4, W4, s4, l3.trans l4, q4⟩, ok.rt, fun δ4 σ4 W4 H4 s4 l4 q4 => ok.nx δ4 σ4 W4 H4 s4 (BLe.trans st1.b (l3.trans l4)) q4, fun δ4 σ4 W4 H4 s4 l4 q4 => ⟨δ4, W4, s4, l3.trans l4, q4⟩⟩
  · have e : i = items.length := by omega
    subst e
    refine .inl ⟨stop, ok.nx δ' σ' W' H' s' (BLe.trans st1.b l') ?_⟩
    rw [List.drop_length] at q'
    exact q'
/-- for over the own list in slot i, which stays as it is -/
def forOwnWP (i : Nat) (p : Addr) (xs : List D) (g : TGD) (tb : TSD) (E : EndsD) : List D → Sl → Prop
  | [], δ => δ[i]? = some (some (.own p xs)) ∧ E.nx δ
  | x :: r, δ => δ[i]? = some (some (.own p xs)) ∧ noList x = true ∧ g (.d x) δ fun δ' => tb { E with nx := forOwnWP i p xs g tb E r, ct := forOwnWP i p xs g tb E r, bk := E.nx } δ'
def tsForOwn (i : Nat) (g : TGD) (tb : TSD) : TSD := fun E δ => ∃ p xs, δ[i]? = some (some (.own p xs)) ∧ forOwnWP i p xs g tb E xs δ
theorem ds_forOwn {tg : Expr} {i : Nat} {g : TGD} {tb : TSD} {body : List Stmt} (hp : PassesOwn (model C.X.prog C.X.w) C.X.A C.X.env C.X.xe) (hc : C.X.calm = true) (hv : PE C.X e (tVar i)) (hg : DG C tg g) (hb : DSs C body tb)
    (hs : ∀ x, foldedSetIterable e C.X.env x = pure x := by intro _; rfl) : DS C (.For tg e body [] pos) (tsForOwn i g tb) := by
  obtain ⟨tg', g1, g2⟩ := hg
  obtain ⟨ts, b1, b2⟩ := hb
  refine ⟨_, ps_for hp hc (pi_list hv) g1 b1 hs, fun δ σ W H D DV sat ⟨p, xs, e0, q⟩ ok => ?_⟩
  obtain ⟨vs, f1, k1, k2, k3, k4⟩ := sat.own e0
  refine ⟨.ref p, f1, p, rfl, ⟨vs, .inl (.inl k1)⟩, ?_⟩
  have first : ∀ {l : List DL.D} {δ : Sl}, forOwnWP i p xs g tb D l δ → δ[i]? = some (some (.own p xs)) := fun {l δ} h => by
    cases l with
    | nil => exact h.1
    | cons x r => exact h.1
  refine ⟨fun j m σ' H' => m = xs.length - j ∧ j ≤ xs.length ∧ ∃ δ' W', Sat C δ' σ' W' H' ∧ BLe W W' ∧ forOwnWP i p xs g tb D (xs.drop j) δ', ⟨xs.length, by simp, Nat.zero_le _, δ, W, sat, BLe.refl W, by simpa using q⟩, ?_⟩
  rintro j m σ' H' ⟨rfl, hj, δ', W', s', l', q'⟩
  obtain ⟨us, f2, g1', g2', g3', g4'⟩ := s'.own (first q')
  have hlen := dpAll_len g4'
  by_cases hlt : j < xs.length
  · have ex : xs[j]? = some xs[j] := List.getElem?_eq_getElem hlt
    obtain ⟨v, ev, rv⟩ := dpAll_get g4' ex
    rw [drop_get ex] at q'
    obtain ⟨_, nl, q'⟩ := q'
    refine .inr ⟨⟨us, v, .inl (.inl g1'), ev⟩, fun σ2 H2 => ∃ δ2 W2, Sat C δ2 σ2 W2 H2 ∧ BLe W W2 ∧ forOwnWP i p xs g tb D (xs.drop (j + 1)) δ2, fun σ2 H2 ⟨δ2, W2, s2, l2, q2⟩ => ⟨xs.length - (j + 1), by omega, rfl, hlt, δ2, W2, s2, l2, q2⟩, fun u H2 y => ?_⟩
    obtain ⟨eH, y⟩ := y
    have ev2 := y us (.inl (.inl g1'))
    rw [ev] at ev2
    cases ev2
    subst eH
    refine g2 (.d xs[j]) v δ' σ' W' _ _ _ s' rv (fun _ _ z => nomatch z) q' fun δ3 σ3 s3 q3 => ?_
    exact b2 δ3 σ3 W' _ _ _ s3 q3 ⟨fun δ4 σ4 W4 H4 s4 l4 q4 => ⟨δ4, W4, s4, l'.trans l4, q4⟩, ok.rt, fun δ4 σ4 W4 H4 s4 l4 q4 => ok.nx δ4 σ4 W4 H4 s4 (l'.trans l4) q4, fun δ4 σ4 W4 H4 s4 l4 q4 => ⟨δ4, W4, s4, l'.trans l4, q4⟩⟩
  · have e : j = xs.length := by omega
    subst e
    rw [List.drop_length] at q'
    exact .inl ⟨⟨us, .inl (.inl g1'), by omega⟩, ok.nx δ' σ' W' H' s' l' q'.2⟩
/-- while, by an invariant with a measure -/
def tsWhile (c : TB) (tb : TSD) : TSD := fun E δ => ∃ I : Nat → Sl → Prop, (∃ m, I m δ) ∧ ∀ m δ, I m δ → c δ fun b => if b = true then tb { E with nx := fun δ' => ∃ m', m' < m ∧ I m' δ', ct := fun δ' => ∃ m', m' < m ∧ I m' δ', bk := E.nx } δ else E.nx δ
theorem ds_while {tc : TB} {tb : TSD} {body : List Stmt} (hp : PassesOwn (model C.X.prog C.X.w) C.X.A C.X.env C.X.xe) (hc : DT C c tc) (hb : DSs C body tb) : DS C (.While c body [] pos) (tsWhile tc tb) := by
  obtain ⟨tv, c1, c2⟩ := hc
  obtain ⟨ts, b1, b2⟩ := hb
  refine ⟨_, ps_while hp c1 b1, fun δ σ W H D DV sat ⟨I, ⟨m0, i0⟩, turn⟩ ok => ?_⟩
  refine ⟨fun m σ' H' => ∃ δ' W', Sat C δ' σ' W' H' ∧ BLe W W' ∧ I m δ', ⟨m0, δ, W, sat, BLe.refl W, i0⟩, ?_⟩
  rintro m σ' H' ⟨δ', W', s', l', i'⟩
  refine c2 δ' σ' W' H' _ _ s' (turn m δ' i') fun b W1 H1 s1 st1 q1 => ?_
  cases b with
  | true =>
    refine ⟨fun σ2 H2 => ∃ δ2 W2, Sat C δ2 σ2 W2 H2 ∧ BLe W W2 ∧ ∃ m', m' < m ∧ I m' δ2, fun σ2 H2 ⟨δ2, W2, s2, l2, m', hm, i2⟩ => ⟨m', hm, δ2, W2, s2, l2, i2⟩, ?_⟩
    have l1 : BLe W W1 := l'.trans st1.b
    exact b2 δ' σ' W1 H1 _ _ s1 q1 ⟨fun δ4 σ4 W4 H4 s4 l4 q4 => ⟨δ4, W4, s4, l1.trans l4, q4⟩, ok.rt, fun δ4 σ4 W4 H4 s4 l4 q4 => ok.nx δ4 σ4 W4 H4 s4 (l1.trans l4) q4, fun δ4 σ4 W4 H4 s4 l4 q4 => ⟨δ4, W4, s4, l1.trans l4, q4⟩⟩
  | false => exact ok.nx δ' σ' W1 H1 s1 (BLe.trans l' st1.b) q1
/-! ### raise -/
def tsRaise (Ed : XD → Prop) (x : XD) : TSD := fun _ _ => Ed x
/-- raise X('..'), an own class without an __init__ -/
theorem ds_raiseOwn {Cl : Addr} (ok : C.Ok) (hc : C.X.calm = true) (hm : PMk C.X e (fun _ H Q => Q (.ref Cl) none H)) : DS C (.Raise (some e) none pos) (tsRaise C.Ed ⟨Cl, none⟩) := by
  refine ⟨_, ps_raise hc ok.tk hm, fun δ σ W H D DV sat q _ => ?_⟩
  exact ok.lk _ _ _ W H q sat.ok sat.step ⟨rfl, rfl⟩
end
end DL

-- part DLg
namespace DL
open PySem PySem.Spec PyProof.Rows L2
/-! ### comprehensions -/
/-- the context of a comprehension's block: nothing is raised out of it -/
abbrev DC.blk (C : DC) (s : Shared) (H : Hp) (scope : Scope) (cenv : Env) (fp : List Addr) : DC := { C with X := C.X.blk s H scope cenv fp, Ed := fun _ => False, EX := E0 }
theorem DC.blk_ok {C : DC} {s : Shared} {H : Hp} {scope : Scope} {cenv : Env} {fp : List Addr} : (C.blk s H scope cenv fp).Ok := ⟨takes0, fun _ _ _ _ _ h => h.elim⟩
theorem Sat.toBlk {C : DC} {δ : Sl} {σ : L2.St} {W : Wd} {H : Hp} {s : Shared} {H1 : Hp} {scope : Scope} {cenv : Env} {fp : List Addr} (h : Sat C δ σ W H) : Sat (C.blk s H1 scope cenv fp) δ σ W H := ⟨h.ok, h.step, h.sl, h.ap, h.new, h.len⟩
theorem Sat.ofBlk {C : DC} {δ : Sl} {σ : L2.St} {W : Wd} {H : Hp} {s : Shared} {H1 : Hp} {scope : Scope} {cenv : Env} {fp : List Addr} (h : Sat (C.blk s H1 scope cenv fp) δ σ W H) : Sat C δ σ W H := ⟨h.ok, h.step, h.sl, h.ap, h.new, h.len⟩
/-- the slots of the block's own names forgotten -/
def wipeD (δ : Sl) : List Nat → Sl
  | [] => δ
  | v :: vs => (wipeD δ vs).set v none
theorem wipeD_length (δ : Sl) : ∀ vs : List Nat, (wipeD δ vs).length = δ.length
  | [] => rfl
  | v :: vs => by unfold wipeD; rw [List.length_set, wipeD_length δ vs]
theorem wipeD_some {δ : Sl} {i : Nat} {x : S} : ∀ {vs : List Nat}, (wipeD δ vs)[i]? = some (some x) → δ[i]? = some (some x) ∧ i ∉ vs
  | [], h => ⟨h, by simp⟩
  | v :: vs, h => by
    unfold wipeD at h
    by_cases hi : v = i
    · subst hi
      by_cases hv : v < (wipeD δ vs).length
      · rw [List.getElem?_set_self hv] at h; cases h
      · rw [List.getElem?_eq_none (by simpa using hv)] at h; cases h
    · rw [List.getElem?_set_ne hi] at h
      obtain ⟨h1, h2⟩ := wipeD_some h
      exact ⟨h1, by simp only [List.mem_cons, not_or]; exact ⟨fun e => hi e.symm, h2⟩⟩
theorem wipe_out' {σ : L2.St} {i : Nat} : ∀ {vs : List Nat}, i ∉ vs → (wipe σ vs)[i]? = σ[i]? := fun h => wipe_out h
theorem Sat.wipe {C : DC} {δ : Sl} {σ : L2.St} {W : Wd} {H : Hp} (h : Sat C δ σ W H) (vs : List Nat) : Sat C (wipeD δ vs) (L2.wipe σ vs) W H :=
  h.weak (by rw [wipeD_length, wipe_length]; exact h.len) fun i s e => by
    obtain ⟨e1, e2⟩ := wipeD_some e
    exact ⟨e1, fun v q => by rw [wipe_out e2]; exact q⟩
theorem wipe_in {σ : L2.St} {i : Nat} : ∀ {vs : List Nat}, i ∈ vs → i < σ.length → (L2.wipe σ vs)[i]? = some none
  | [], h, _ => by simp at h
  | v :: vs, h, hl => by
    unfold L2.wipe
    by_cases e : v = i
    · subst e
      rw [List.getElem?_set_self (by rw [wipe_length]; exact hl)]
    · rw [List.getElem?_set_ne e]
      rcases List.mem_cons.mp h with z | z
      · exact absurd z.symm e
      · exact wipe_in z hl
theorem wipe_wipe (σ : L2.St) (vs : List Nat) : L2.wipe (L2.wipe σ vs) vs = L2.wipe σ vs := by
  refine List.ext_getElem? fun i => ?_
  by_cases hm : i ∈ vs
  · by_cases hl : i < σ.length
    · rw [wipe_in hm (by rw [wipe_length]; exact hl), wipe_in hm hl]
    · rw [List.getElem?_eq_none (by rw [wipe_length, wipe_length]; omega), List.getElem?_eq_none (by rw [wipe_length]; omega)]
  · rw [wipe_out hm]
/-- a list that no slot holds changes -/
theorem Sat.relay {C : DC} {δ : Sl} {σ : L2.St} {W : Wd} {H : Hp} {p : Addr} {o : HO} (h : Sat C δ σ W H) (h0 : C.H0 p = none) (hb : W.b p = none) (hr : W.r p = none) (ha : ∀ (i : Nat) (ys : List D), δ[i]? ≠ some (some (S.own p ys))) : Sat C δ σ W (upd H p o) where
  ok := h.ok.lay hb hr
  step := ⟨h.step.b, fun a u q n => by
    rw [upd_ne (fun z => by rw [z, h0] at q; cases q)]
    exact h.step.keep a u q n, h.step.nb, h.step.nr, fun a u q => by
    obtain ⟨o', q'⟩ := h.step.th a u q
    exact ⟨o', by rw [upd_ne (fun z => by rw [z, h0] at q; cases q)]; exact q'⟩⟩
  sl := fun j s q => by
    obtain ⟨v, q1, q2⟩ := h.sl j s q
    refine ⟨v, q1, ?_⟩
    cases s with
    | d x => exact q2
    | v x => exact q2
    | dic kvs => exact q2
    | own p2 as =>
      obtain ⟨ev, ws, k1, k2, k3, k4⟩ := q2
      have np : p2 ≠ p := fun y => ha j as (by rw [q, y])
      exact ⟨ev, ws, by rw [upd_ne np]; exact k1, k2, k3, k4⟩
  ap := h.ap
  new := h.new
  len := h.len
theorem Step.relay {W W' : Wd} {H H' : Hp} {p : Addr} {o : HO} (st : Step W H W' H') (h0 : H p = none) : Step W H W' (upd H' p o) := ⟨st.b, fun a u q n => by
    rw [upd_ne (fun z => by rw [z, h0] at q; cases q)]
    exact st.keep a u q n, st.nb, st.nr, fun a u q => by
    obtain ⟨o', q'⟩ := st.th a u q
    exact ⟨o', by rw [upd_ne (fun z => by rw [z, h0] at q; cases q)]; exact q'⟩⟩
/-- tests of a comprehension -/
def DTs (C : DC) (ifs : List Expr) (t : TB) : Prop := ∃ tv : TT, PTs C.X ifs tv ∧ ∀ δ σ W H (Q : Bool → Prop) (QV : Bool → Hp → Prop), Sat C δ σ W H → t δ Q →
  (∀ b W' H', Sat C δ σ W' H' → Step W H W' H' → Q b → QV b H') → tv σ H QV
def tbYes : TB := fun _ Q => Q true
theorem dts_nil {C : DC} : DTs C [] tbYes := ⟨_, pts_nil, fun δ σ W H Q QV sat q k => k true W H sat (Step.refl W H) q⟩
theorem dts_one {C : DC} {c : Expr} {t : TB} (h : DT C c t) : DTs C [c] t := by
  obtain ⟨tv, h1, h2⟩ := h
  exact ⟨tv, pts_one h1, h2⟩
/-- a target whose slots are those of the block's own names: the others stay -/
def compWP (g : TGD) (tt : TB) (te : TV) (δ : Sl) (Q : List D → Prop) : List D → List D → Prop
  | [], acc => Q acc
  | x :: r, acc => g (.d x) δ fun δ' => tt δ' fun b => if b = true then te δ' fun y => compWP g tt te δ Q r (acc ++ [y]) else compWP g tt te δ Q r acc
/-- a target of a comprehension: what it stores lies in the slots vs -/
def DGc (C : DC) (vs : List Nat) (tg : Expr) (t : TGD) : Prop := ∃ tv : L2.TG, PG C.X tg tv ∧ ∀ s v δ σ W H (Q : Sl → Prop) (QV : L2.St → Hp → Prop), Sat C δ σ W H → SOk C.X.K W H s v → Apart C δ s → t s δ Q → (∀ δ' σ', Sat C δ' σ' W H → L2.wipe σ' vs = L2.wipe σ vs → Q δ' → QV σ' H) → tv v σ H QV
def DGcs (C : DC) (vs : List Nat) (ts : List Expr) (t : TGDs) : Prop := ∃ tv : L2.TGs, PGs C.X ts tv ∧ ∀ xs us δ σ W H (Q : Sl → Prop) (QV : L2.St → Hp → Prop), Sat C δ σ W H → DpAll C.X.K W.b us xs → t xs δ Q → (∀ δ' σ', Sat C δ' σ' W H → L2.wipe σ' vs = L2.wipe σ vs → Q δ' → QV σ' H) → tv us σ H QV
theorem wipe_set {σ : L2.St} {i : Nat} {o : Option V} : ∀ {vs : List Nat}, i ∈ vs → L2.wipe (σ.set i o) vs = L2.wipe σ vs
  | [], h => by simp at h
  | v :: vs, h => by
    by_cases e : v = i
    · subst e
      unfold L2.wipe
      by_cases hm : v ∈ vs
      · rw [wipe_set hm]
      · have key : ∀ (ws : List Nat), L2.wipe (σ.set v o) ws = if v ∈ ws then L2.wipe σ ws else (L2.wipe σ ws).set v o := by
          intro ws
          induction ws with
          | nil => simp [L2.wipe]
          | cons w ws ih =>
            unfold L2.wipe
            rw [ih]
            by_cases hw : v ∈ ws
            · rw [if_pos hw, if_pos (List.mem_cons_of_mem _ hw)]
            · rw [if_neg hw]
              by_cases hvw : v = w
              · subst hvw
                rw [if_pos (List.mem_cons_self ..), List.set_set]
              · rw [if_neg (by simp [hvw, hw]), List.set_comm _ _ hvw]
        rw [key vs, if_neg hm, List.set_set]
    · have hm : i ∈ vs := by
        rcases List.mem_cons.mp h with z | z
        · exact absurd z.symm e
        · exact z
      unfold L2.wipe
      rw [wipe_set hm]
theorem dgc_name {C : DC} {vs : List Nat} {i : Nat} {x : Str} {pos : Pos} (hN : C.X.N.Nodup) (hi : C.X.N[i]? = some x) (hx : Loc C.X.env.scope x) (hm : i ∈ vs := by decide) (hf : C.X.fn x = true ∨ C.X.env.scope.names.lookup x = some .local := by first | exact .inl rfl | exact .inr rfl | assumption) : DGc C vs (.Name x pos) (tgName i) :=
  ⟨_, pg_name hN hi hx hf, fun s v δ σ W H Q QV sat r ap q k => k _ _ (sat.set r fun p xs e => ⟨(ap p xs e).1, fun j ys _ => (ap p xs e).2 j ys⟩) (wipe_set hm) q⟩
theorem dgcs_nil {C : DC} {vs : List Nat} : DGcs C vs [] tgNil := ⟨_, pgs_nil, fun xs us δ σ W H Q QV sat r ⟨e, q⟩ k => by
  subst e
  cases r
  exact ⟨rfl, k δ σ sat rfl q⟩⟩
theorem dgcs_cons {C : DC} {vs : List Nat} {e : Expr} {es : List Expr} {t : TGD} {u : TGDs} (h1 : DGc C vs e t) (h2 : DGcs C vs es u) (hs : (assignEach (e :: es) C.X.env).map (·.2) = assign e C.X.env :: (assignEach es C.X.env).map (·.2) := by rfl) : DGcs C vs (e :: es) (tgCons t u) := by
  obtain ⟨tv, g1, g2⟩ := h1
  obtain ⟨tw, f1, f2⟩ := h2
  refine ⟨_, pgs_cons g1 f1 hs, fun xs us δ σ W H Q QV sat r ⟨x, rr, e, q⟩ k => ?_⟩
  subst e
  cases r with
  | cons r1 r2 =>
    refine ⟨_, _, rfl, g2 (.d x) _ δ σ W H _ _ sat r1 (fun _ _ z => nomatch z) q fun δ' σ' s' w1 q' => ?_⟩
    exact f2 rr _ δ' σ' W H Q QV s' r2 q' fun δ2 σ2 s2 w2 q2 => k δ2 σ2 s2 (w2.trans w1) q2
theorem dgc_tup {C : DC} {vs : List Nat} {es : List Expr} {k : Nat} {t : TGDs} {n : Nat} {pos : Pos} (hc : C.X.calm = true) (h : DGcs C vs es t) (hn : (assignEach es C.X.env).length = n := by rfl) (hst : (assignEach es C.X.env).findIdx? (·.1) = none := by rfl) : DGc C vs (.Tuple es k pos) (tgTup n t) := by
  obtain ⟨tv, g1, g2⟩ := h
  refine ⟨_, pg_tup hc g1 hn hst, fun s v δ σ W H Q QV sat r ap ⟨xs, e, hl, q⟩ k => ?_⟩
  subst e
  obtain ⟨a, us, rfl, h1, h2⟩ := dp_tup_inv (show Dp C.X.K W.b v (.tuple xs) from r)
  exact ⟨a, us, rfl, sqT_mono sat.ok.bH h1, by rw [dpAll_len h2]; exact hl, g2 xs us δ σ W H Q QV sat h2 q k⟩
section
variable {C : DC} {elt tg iter : Expr} {ifs : List Expr} {scope : Scope} {own : List (Str × Nat)} {pos : Pos} {wi : TID} {g : TGD} {tt : TB} {te : TV}
/-- [elt for tg in iter if ..] -/
def tdLc (wi : TID) (g : TGD) (tt : TB) (te : TV) (vs : List Nat) : TD := fun δ Q => wi δ fun items => items.length < sizeLine ∧ compWP g tt te (wipeD δ vs) (fun acc => ∀ p, Q (.own p acc)) items []
/-- the comprehension's machine, its reading -/
theorem lift_lc {wiv : L2.TI} {gv : L2.TG} {ttv : TT} {tev : TE} {vs : List Nat}
    (li : ∀ δ σ W H (Q : List D → Prop) (R : It → Hp → Prop), Sat C δ σ W H → wi δ Q → (∀ J items W' H', Sat C δ σ W' H' → Step W H W' H' → ItOk C J items W' → items.length ≤ 2 ^ 62 → Q items → R J H') → wiv σ H R)
    (lg : ∀ s v δ σ W H (Q : Sl → Prop) (QV : L2.St → Hp → Prop), Sat C δ σ W H → SOk C.X.K W H s v → Apart C δ s → g s δ Q → (∀ δ' σ', Sat C δ' σ' W H → L2.wipe σ' vs = L2.wipe σ vs → Q δ' → QV σ' H) → gv v σ H QV)
    (lt : ∀ δ σ W H (Q : Bool → Prop) (QV : Bool → Hp → Prop), Sat C δ σ W H → tt δ Q → (∀ b W' H', Sat C δ σ W' H' → Step W H W' H' → Q b → QV b H') → ttv σ H QV)
    (le : ∀ δ σ W H (Q : D → Prop) (QV : VK), Sat C δ σ W H → te δ Q → (∀ v W' H' x, Sat C δ σ W' H' → Step W H W' H' → Dp C.X.K W'.b v x → Q x → QV v H') → tev σ H QV) :
    ∀ δ σ W H (Q : S → Prop) (QV : VK), Sat C δ σ W H → tdLc wi g tt te vs δ Q → (∀ v W' H' s, Sat C δ σ W' H' → Step W H W' H' → SOk C.X.K W' H' s v → Fresh H s → Q s → QV v H') → tLc wiv gv ttv tev vs σ H QV := fun δ σ W H Q QV sat q k => by
  refine li δ σ W H _ _ sat q fun J items W1 H1 s1 st1 it hlen ⟨hz, q1⟩ => ?_
  intro Dn hD
  have f0 := s1.ok.free hD
  have hH : H Dn = none := by
    cases h : H Dn with
    | none => rfl
    | some o =>
      obtain ⟨o', h'⟩ := st1.th Dn o h
      rw [hD] at h'
      cases h'
  have stl := Step.lay (W := W1) (o := HO.lst []) hD
  have okl := s1.ok.lay (o := HO.lst []) f0.1 f0.2
  -- the invariant
  refine ⟨fun i m H' => m = items.length - i ∧ i ≤ items.length ∧ ∃ W' acc us, Sat C δ σ W' H' ∧ Step W H W' H' ∧ BLe W1 W' ∧ H' Dn = some (.lst us) ∧ W'.b Dn = none ∧ W'.r Dn = none ∧ DpAll C.X.K W'.b us acc ∧ us.length ≤ i ∧ compWP g tt te (wipeD δ vs) (fun acc => ∀ p, Q (.own p acc)) (items.drop i) acc,
    ⟨items.length, by simp, Nat.zero_le _, W1, [], [], s1.go okl stl, st1.trans stl, BLe.refl W1, upd_same, f0.1, f0.2, .nil, Nat.zero_le _, by simpa using q1⟩, ?_⟩
  rintro i m H' ⟨rfl, hi, W', acc, us, s', st', l', hDn, nb, nr, rr, hul, q'⟩
  obtain ⟨go, stop⟩ := it W' H' s'.ok l'
  by_cases hlt : i < items.length
  · have ex : items[i]? = some items[i] := List.getElem?_eq_getElem hlt
    obtain ⟨go1, go2⟩ := go i items[i] ex
    rw [drop_get ex] at q'
    refine .inr ⟨go1, fun H2 => ∃ W2 acc2 us2, Sat C δ σ W2 H2 ∧ Step W H W2 H2 ∧ BLe W1 W2 ∧ H2 Dn = some (.lst us2) ∧ W2.b Dn = none ∧ W2.r Dn = none ∧ DpAll C.X.K W2.b us2 acc2 ∧ us2.length ≤ i + 1 ∧ compWP g tt te (wipeD δ vs) (fun acc => ∀ p, Q (.own p acc)) (items.drop (i + 1)) acc2,
      fun H2 ⟨W2, acc2, us2, a1, a2, a3, a4, a5, a6, a7, a8, a9⟩ => ⟨items.length - (i + 1), by omega, rfl, hlt, W2, acc2, us2, a1, a2, a3, a4, a5, a6, a7, a8, a9⟩, fun v H2 y => ?_⟩
    obtain ⟨W2, w2, st2, r2⟩ := go2 v H2 y
    have s2 := s'.go w2 st2
    have keepD : ∀ {Wa : Wd} {Ha : Hp}, Step W' H' Wa Ha → Ha Dn = some (.lst us) ∧ Wa.b Dn = none ∧ Wa.r Dn = none := fun {Wa Ha} st => ⟨st.keep _ _ hDn nr, st.nb _ _ hDn nb, st.nr _ _ hDn nr⟩
    refine lg (.d items[i]) v (wipeD δ vs) (L2.wipe σ vs) W2 H2 _ _ (s2.wipe vs) r2 (fun _ _ z => nomatch z) q' fun δ3 σ3 s3 w3 q3 => ?_
    refine ⟨by rw [w3]; exact wipe_wipe σ vs, ?_⟩
    refine lt δ3 σ3 W2 H2 _ _ s3 q3 fun b W4 H4 s4 st4 q4 => ?_
    cases b with
    | true =>
      refine le δ3 σ3 W4 H4 _ _ s4 q4 fun yv W5 H5 y s5 st5 r5 q5 => ?_
      have st25 := (st2.trans st4).trans st5
      obtain ⟨d1, d2, d3⟩ := keepD st25
      have sD := (s'.go s5.ok st25)
      exact ⟨us, d1, by omega, W5, acc ++ [y], us ++ [yv], sD.relay (s1.entry hD) d2 d3 (s1.apart hD), (st'.trans st25).relay hH, l'.trans (BLe.trans st2.b (BLe.trans st4.b st5.b)), upd_same, d2, d3, dpAll_append (dpAll_mono st25.b rr) (.cons r5 .nil), by rw [List.length_append, List.length_singleton]; omega, q5⟩
    | false =>
      have st24 := st2.trans st4
      obtain ⟨d1, d2, d3⟩ := keepD st24
      exact ⟨W4, acc, us, s'.go s4.ok st24, st'.trans st24, l'.trans (BLe.trans st2.b st4.b), d1, d2, d3, dpAll_mono st24.b rr, by omega, q4⟩
  · have e : i = items.length := by omega
    subst e
    rw [List.drop_length] at q'
    refine .inl ⟨stop, k (.ref Dn) W' H' (.own Dn acc) s' st' ⟨rfl, us, hDn, nb, nr, rr⟩ (fun z xs e => ?_) (q' Dn)⟩
    cases e
    exact hH
/-- readings that do not hang on the block -/
def canV (C : DC) (t : TV) : TE := fun σ H QV => ∃ (δ : Sl) (W : Wd) (Q : D → Prop), Sat C δ σ W H ∧ t δ Q ∧ ∀ v W' H' x, Sat C δ σ W' H' → Step W H W' H' → Dp C.X.K W'.b v x → Q x → QV v H'
def canT (C : DC) (t : TB) : TT := fun σ H QV => ∃ (δ : Sl) (W : Wd) (Q : Bool → Prop), Sat C δ σ W H ∧ t δ Q ∧ ∀ b W' H', Sat C δ σ W' H' → Step W H W' H' → Q b → QV b H'
def canG (C : DC) (vs : List Nat) (t : TGD) : L2.TG := fun v σ H QV => ∃ (s : S) (δ : Sl) (W : Wd) (Q : Sl → Prop), Sat C δ σ W H ∧ SOk C.X.K W H s v ∧ Apart C δ s ∧ t s δ Q ∧ ∀ δ' σ', Sat C δ' σ' W H → L2.wipe σ' vs = L2.wipe σ vs → Q δ' → QV σ' H
theorem de_lc (hc : C.X.calm = true) (hN : C.X.N.Nodup) (hi : DI C tg iter wi) (ok : BlkOk C.X.N C.X.env.scope scope own)
    (hg : ∀ (s : Shared) (H : Hp) (A : Addr) (cl : List (Str × Addr)) (fp : List Addr), DGc (C.blk s H scope (compEnvC scope cl A C.X.env) fp) (own.map (·.2)) tg g)
    (ht : ∀ (s : Shared) (H : Hp) (A : Addr) (cl : List (Str × Addr)) (fp : List Addr), DTs (C.blk s H scope (compEnvC scope cl A C.X.env) fp) ifs tt)
    (he : ∀ (s : Shared) (H : Hp) (A : Addr) (cl : List (Str × Addr)) (fp : List Addr), DV (C.blk s H scope (compEnvC scope cl A C.X.env) fp) elt te) (hs : ∀ x, foldedSetIterable iter C.X.env x = pure x := by intro _; rfl) :
    DE C (.ListComp elt [⟨tg, iter, ifs, 0⟩] scope pos) (tdLc wi g tt te (own.map (·.2))) := by
  obtain ⟨wiv, i1, i2⟩ := hi
  refine ⟨_, pe_lc (g := canG C (own.map (·.2)) g) (tt := canT C tt) (te := canV C te) hc hN i1 ok (fun s H A cl fp => ?_) (fun s H A cl fp => ?_) (fun s H A cl fp => ?_) hs, lift_lc i2 (fun s v δ σ W H Q QV sat r ap q k => ⟨s, δ, W, Q, sat, r, ap, q, k⟩) (fun δ σ W H Q QV sat q k => ⟨δ, W, Q, sat, q, k⟩) (fun δ σ W H Q QV sat q k => ⟨δ, W, Q, sat, q, k⟩)⟩
  · obtain ⟨tv, h1, h2⟩ := hg s H A cl fp
    exact ⟨fun pins s' σ' H' v u Q I r ⟨sd, δ, W, Qd, sat, ro, ap, q, k⟩ => h1.run pins s' σ' H' v u Q I r (h2 sd v δ σ' W H' Qd Q sat.toBlk ro ap q fun δ2 σ2 s2 w2 q2 => k δ2 σ2 s2.ofBlk w2 q2)⟩
  · obtain ⟨tv, h1, h2⟩ := ht s H A cl fp
    exact ⟨fun pins s' σ' H' Q I ⟨δ, W, Qd, sat, q, k⟩ => h1.run pins s' σ' H' Q I (h2 δ σ' W H' Qd Q sat.toBlk q fun b W2 H2 s2 st2 q2 => k b W2 H2 s2.ofBlk st2 q2)⟩
  · obtain ⟨tv, h1, h2⟩ := he s H A cl fp
    exact ⟨fun pins s' σ' H' Q I ⟨δ, W, Qd, sat, q, k⟩ => h1.run pins s' σ' H' Q I (h2 δ σ' W H' Qd Q sat.toBlk q fun v W2 H2 x s2 st2 r2 q2 => k v W2 H2 x s2.ofBlk st2 r2 q2)⟩
/-- name = [..] on one line, the name a local -/
theorem ds_setLc {i : Nat} {y : Str} {py spos : Pos} (hc : C.X.calm = true) (hN : C.X.N.Nodup) (hy : C.X.N[i]? = some y) (hyl : C.X.env.scope.names.lookup y = some .local)
    (hsw : swapsWith (.ListComp elt [⟨tg, iter, ifs, 0⟩] scope pos) (some (.Name y py)) spos.line C.X.env = pure true) (hi : DI C tg iter wi) (ok : BlkOk C.X.N C.X.env.scope scope own)
    (hg : ∀ (s : Shared) (H : Hp) (A : Addr) (cl : List (Str × Addr)) (fp : List Addr), DGc (C.blk s H scope (compEnvC scope cl A C.X.env) fp) (own.map (·.2)) tg g)
    (ht : ∀ (s : Shared) (H : Hp) (A : Addr) (cl : List (Str × Addr)) (fp : List Addr), DTs (C.blk s H scope (compEnvC scope cl A C.X.env) fp) ifs tt)
    (he : ∀ (s : Shared) (H : Hp) (A : Addr) (cl : List (Str × Addr)) (fp : List Addr), DV (C.blk s H scope (compEnvC scope cl A C.X.env) fp) elt te) (hs : ∀ x, foldedSetIterable iter C.X.env x = pure x := by intro _; rfl) :
    DS C (.Assign [.Name y py] (.ListComp elt [⟨tg, iter, ifs, 0⟩] scope pos) spos) (tsAsg (tdLc wi g tt te (own.map (·.2))) (tgName i)) := by
  obtain ⟨wiv, i1, i2⟩ := hi
  refine ⟨_, ps_setLc (g := canG C (own.map (·.2)) g) (tt := canT C tt) (te := canV C te) hc hN hy hyl hsw i1 ok (fun s H A cl fp => ?_) (fun s H A cl fp => ?_) (fun s H A cl fp => ?_) hs, fun δ σ W H D DV sat q ends => ?_⟩
  · obtain ⟨tv, h1, h2⟩ := hg s H A cl fp
    exact ⟨fun pins s' σ' H' v u Q I r ⟨sd, δ, W, Qd, sat, ro, ap, q, k⟩ => h1.run pins s' σ' H' v u Q I r (h2 sd v δ σ' W H' Qd Q sat.toBlk ro ap q fun δ2 σ2 s2 w2 q2 => k δ2 σ2 s2.ofBlk w2 q2)⟩
  · obtain ⟨tv, h1, h2⟩ := ht s H A cl fp
    exact ⟨fun pins s' σ' H' Q I ⟨δ, W, Qd, sat, q, k⟩ => h1.run pins s' σ' H' Q I (h2 δ σ' W H' Qd Q sat.toBlk q fun b W2 H2 s2 st2 q2 => k b W2 H2 s2.ofBlk st2 q2)⟩
  · obtain ⟨tv, h1, h2⟩ := he s H A cl fp
    exact ⟨fun pins s' σ' H' Q I ⟨δ, W, Qd, sat, q, k⟩ => h1.run pins s' σ' H' Q I (h2 δ σ' W H' Qd Q sat.toBlk q fun v W2 H2 x s2 st2 r2 q2 => k v W2 H2 x s2.ofBlk st2 r2 q2)⟩
  · refine lift_lc i2 (fun s v δ σ W H Q QV sat r ap q k => ⟨s, δ, W, Q, sat, r, ap, q, k⟩) (fun δ σ W H Q QV sat q k => ⟨δ, W, Q, sat, q, k⟩) (fun δ σ W H Q QV sat q k => ⟨δ, W, Q, sat, q, k⟩) δ σ W H _ _ sat q fun v W1 H1 s s1 st1 r1 f1 q1 => ?_
    exact ends.nx _ _ W1 H1 (sat.setF s1 r1 f1) st1.b q1
end
/-! ### a def keeps its promise -/
def startD (N : List Str) (ss : List S) : Sl := ss.map some ++ List.replicate (N.length - ss.length) none
theorem sat_start {C : DC} {N : List Str} {ss : List S} {vs : List V} {W : Wd} {H : Hp} (w : WOk C.ρ W H) (r : All2 C.X.K W H ss vs) (no : ∀ p xs, S.own p xs ∉ ss) (e0 : C.W0 = W) (e1 : C.H0 = H) (hl : vs.length ≤ N.length) : Sat C (startD N ss) (L2.start N vs) W H := by
  have get : ∀ (i : Nat) (s : S), (startD N ss)[i]? = some (some s) → ss[i]? = some s := fun i s e => by
    unfold startD at e
    by_cases hi : i < (ss.map some).length
    · rw [List.getElem?_append_left hi, List.getElem?_map] at e
      cases q : ss[i]? with
      | none => rw [q] at e; cases e
      | some t =>
        rw [q] at e
        cases e
        rfl
    · rw [List.getElem?_append_right (by omega), List.getElem?_replicate] at e
      split at e <;> cases e
  have all : ∀ {ss : List S} {vs : List V} (i : Nat) (s : S), All2 C.X.K W H ss vs → ss[i]? = some s → ∃ v, vs[i]? = some v ∧ SOk C.X.K W H s v := by
    intro ss vs i
    induction i generalizing ss vs with
    | zero =>
      intro s a e
      cases a with
      | nil => cases e
      | cons h t => cases e; exact ⟨_, rfl, h⟩
    | succ i ih =>
      intro s a e
      cases a with
      | nil => cases e
      | cons h t =>
        obtain ⟨v, q1, q2⟩ := ih s t (by simpa using e)
        exact ⟨v, by simpa using q1, q2⟩
  refine ⟨w, by rw [e0, e1]; exact Step.refl W H, fun i s e => ?_, fun i j p xs ys e _ => ?_, fun i p xs e => ?_, ?_⟩
  · obtain ⟨v, q1, q2⟩ := all i s r (get i s e)
    refine ⟨v, ?_, q2⟩
    unfold L2.start
    rw [List.getElem?_append_left (by rw [List.length_map]; exact (List.getElem?_eq_some_iff.mp q1).1), List.getElem?_map, q1]
    rfl
  · exact absurd (List.mem_of_getElem? (get i _ e)) (no p xs)
  · exact absurd (List.mem_of_getElem? (get i _ e)) (no p xs)
  · unfold startD L2.start
    simp only [List.length_append, List.length_map, List.length_replicate, r.len]
section
variable {P : Program} {w : World} {K : PySem.W.Frag} {mg : Str → Option Value} {base : Heap}
/-- the context of a def's body -/
abbrev ctx (P : Program) (w : World) (K : PySem.W.Frag) (mg : Str → Option Value) (base : Heap) (N : List Str) (qual : Str) (scope : Scope) (f : Addr) (cdv : Value) (A : Around) (outer : List Env) (s : Shared) (H : Hp) (E : XK) (ρ : Hp → Prop) (W : Wd) (Ed : XD → Prop) : DC :=
  ⟨cxOf (L2.CX P w) P w K mg base N qual scope f cdv A outer s H E, ρ, W, H, Ed, E⟩
/-- THE RULE: the body as a term, its reading on data -/
theorem FunD.data {x qual : Str} {params : Arguments} {body : List Stmt} {scope : Scope} {dvs : List V} {kws : List (Str × V)} {f : Addr} {fd : FuncData} {ρ : Hp → Prop} {N ps : List Str} {k : Nat} {sp : SpD} (F : FunD K x qual params body scope dvs kws f fd) (S : FnScope N ps scope) (hl : ps.length ≤ N.length)
    (hbody : ∀ (cdv : Value) (A : Around) (outer : List Env) (s : Shared) (H : Hp) (E : XK) (W : Wd) (Ed : XD → Prop), (ctx P w K mg base N qual scope f cdv A outer s H E ρ W Ed).Ok → Room k (A.deeper (envOfC qual scope s.heap.objs.size f cdv)) →
      ∃ t, DSs (ctx P w K mg base N qual scope f cdv A outer s H E ρ W Ed) body t ∧ ∀ ss Qd, ss.length = ps.length → sp ss Qd Ed → t { nx := fun _ => Qd (.d .none), rt := Qd } (startD N ss)) :
    FnD P w K mg base ρ (k + 1) f fd ps sp := by
  refine F.ok S (fun vs H Q E h => h.1) fun cdv A outer s H vs Q E hr h => ?_
  obtain ⟨hn, W, ss, Qd, Ed, w0, r, no, hsp, hq, he⟩ := h
  have ok : (ctx P w K mg base N qual scope f cdv A outer s H E ρ W Ed).Ok := ⟨takes_of rfl rfl rfl rfl, fun x cls d W' H' e w' st r => he x cls d W' H' w' st r e⟩
  obtain ⟨t, ⟨ts, g1, g2⟩, q⟩ := hbody cdv A outer s H E W Ed ok hr
  refine ⟨ts, g1, g2 (startD N ss) (L2.start N vs) W H _ _ (sat_start w0 r no rfl rfl (by rw [hn]; exact hl)) (q ss Qd (by rw [← r.len]; exact hn) hsp) ⟨fun δ σ W' H' s' l q => ?_, fun s v W' H' w' st r f q => hq v W' H' s w' st r f q, fun _ _ _ _ _ _ z => z.elim, fun _ _ _ _ _ _ z => z.elim⟩⟩
  exact hq .non W' H' (.d .none) s'.ok s'.step Dp.non (fun _ _ z => nomatch z) q
end
end DL

-- part DLi
namespace DL
open PySem PySem.Spec PyProof.Rows L2
/-! ### enumerate, zip over lists and tuples in any mix -/
inductive Src where
  | lst (a : Addr)
  | tup (a : Addr)
def Src.a : Src → Addr
  | .lst a => a
  | .tup a => a
def SrcAt (K : PySem.W.Frag) (H : Hp) : Src → List V → Prop
  | .lst a, xs => SqL K H a xs
  | .tup a, xs => SqT K H a xs
def Src.own (I : Addr) (i : Nat) (h : Heap) : Src → Prop
  | .lst a => h.IsListIter I a i
  | .tup a => h.IsTupleIter I a i
def Src.is (h : Heap) (its : Array Value) : Src → Prop
  | .lst a => h.IsList a its
  | .tup a => h.IsTuple a its
def Src.o : Src → Obj
  | .lst a => { cls := .type "list_iterator", data := .fields #[.ref a, .int 0 0] }
  | .tup a => { cls := .type "tuple_iterator", data := .fields #[.ref a, .int 0 0] }
theorem Src.draws {prog : Program} {w : World} {A : Around} (hh : A.handled = none) (I : Addr) (s : Src) (hne : s.a ≠ I) (its : Array Value) : Draws prog w A I [I, s.a] its.size (fun i v => its[i]? = some v) (fun i h => s.own I i h ∧ s.is h its) := by
  cases s with
  | lst a => exact Draws.list hh I a hne its
  | tup a => exact Draws.tuple hh I a hne its
theorem Src.begins (s : Src) (its : Array Value) : Begins (.ref s.a) s.o fun h => s.is h its := by
  cases s with
  | lst a => exact begins_list a its
  | tup a => exact begins_tuple a its
theorem Src.own0 (s : Src) {h : Heap} {I : Addr} (e : h.get? I = some s.o) : s.own I 0 h := by
  cases s with
  | lst a => exact ⟨_, e, rfl, rfl⟩
  | tup a => exact ⟨_, e, rfl, rfl⟩
theorem Src.own_obj (s : Src) {h : Heap} {I : Addr} {i : Nat} (e : s.own I i h) : ∃ o, h.get? I = some o ∧ ∀ v, o.data ≠ .cell v := by
  cases s with
  | lst a => obtain ⟨o, e1, _, d⟩ := e; exact ⟨o, e1, fun v q => by rw [d] at q; cases q⟩
  | tup a => obtain ⟨o, e1, _, d⟩ := e; exact ⟨o, e1, fun v q => by rw [d] at q; cases q⟩
theorem Src.own_at (s : Src) {h h' : Heap} {I : Addr} {i : Nat} (e : s.own I i h) (k : ∀ o, h.get? I = some o → h'.get? I = some o) : s.own I i h' := by
  cases s with
  | lst a => exact (show h.IsListIter I a i from e).at k
  | tup a => exact (show h.IsTupleIter I a i from e).at k
section
variable {X : Cx} {pins : List (Addr × Obj)} {σ : L2.St} {H : Hp} {s : Shared}
theorem Inv.src (I : Inv X pins σ H s) {q : Src} {xs : List V} (h : SrcAt X.K H q xs) : ∃ its : List Value, Vals xs its ∧ q.is s.heap its.toArray ∧ q.a < s.heap.objs.size := by
  cases q with
  | lst a =>
    obtain ⟨its, r, p, _⟩ := I.list h
    exact ⟨its, r, p.isList, p.lt⟩
  | tup a =>
    obtain ⟨its, r, p, _⟩ := I.tuple h
    obtain ⟨o, ho, _⟩ := id p
    exact ⟨its, r, p, Heap.lt_size ho⟩
theorem Inv.src_inj (I : Inv X pins σ H s) {q : Src} {xs ys : List V} (h : SrcAt X.K H q xs) (h' : SrcAt X.K H q ys) : xs = ys := by
  cases q with
  | lst a => exact I.list_inj h h'
  | tup a => exact I.tuple_inj h h'
/-- one turn of an iterator that lays a new tuple -/
theorem walk_item {it : Addr} {fp fpW wr : List Addr} {n i : Nat} {Pt : Nat → Array Value → Prop} {St : Nat → Heap → Prop} {Mid : Nat → Addr → Heap → Prop} {tn : Nat → Heap → Prop} {elts : List Expr} {kk : Nat} {tpos : Pos} {E : Value → Shared → Prop} {R : V → Hp → Prop}
    (I : Inv X pins σ H s) (hf : ∀ b ∈ fp, FpOk X pins H b) (Wk : WalksT X.prog X.w X.A it fpW wr n Pt St Mid) (hw : ∀ b ∈ wr, b ∈ fp) (hlt : ∀ b ∈ fp, b < s.heap.objs.size) (hi : i < n) (st : St i s.heap)
    (hP : ∀ vals, Pt i vals → ∃ xs : List V, xs.length ≤ sizeLine ∧ Vals xs vals.toList ∧ ∀ T, H T = none → R (.ref T) (upd H T (.tup xs))) (tnx : ∀ h, St (i + 1) h → tn (i + 1) h) :
    wpAny (model X.prog X.w) X.A (pyNext (.ref it)) (fun r s1 => ∃ u, r = some u ∧
      wpAny (model X.prog X.w) X.A (letOwnedTupleGo (.Tuple elts kk tpos) (.ref it) u) (fun _ s2 => ∃ x H', Inv X pins σ H' s2 ∧ RelV x u ∧ R x H' ∧ tn (i + 1) s2.heap ∧ ∀ b ∈ fp, H' b = none) E s1) E s := by
  refine Wk.item i s _ _ hi st fun T vals h' tk hp hT ht hm hk => ⟨.ref T, rfl, Wk.go elts kk tpos i T { s with heap := h', toks := tk } _ _ hm fun h2 st2 hk2 => ?_⟩
  obtain ⟨xs, hz, rv, hR⟩ := hP vals hp
  have hn : H T = none := I.hok.fresh hT
  obtain ⟨oT, e1, c1, n1, d1⟩ := ht
  have eT := hk2 T oT (Wk.apart i T h' hm) e1
  have new : ObjOk X.prog X.w (upd H T (.tup xs)) h2 T (.tup xs) := ⟨hz, vals.toList, rv, ⟨oT, eT, c1, n1, by rw [d1]⟩⟩
  have I1 : Inv X pins σ (upd H T (.tup xs)) { s with heap := h2, toks := tk } :=
    I.turnedNew (t' := tk) (ch := fp) (fun b o hb e => hk2 b o (fun z => hb (hw b z)) (hk b o (fun z => hb (hw b z)) e)) hf hT new
  refine ⟨.ref T, _, I1, rfl, hR T hn, tnx _ st2, fun b hb => ?_⟩
  rw [upd_ne (Nat.ne_of_lt (Nat.lt_of_lt_of_le (hlt b hb) hT))]
  exact (hf b hb).1
theorem walk_done {it : Addr} {fp fpW wr : List Addr} {n : Nat} {Pt : Nat → Array Value → Prop} {St : Nat → Heap → Prop} {Mid : Nat → Addr → Heap → Prop} {E : Value → Shared → Prop}
    (I : Inv X pins σ H s) (hf : ∀ b ∈ fp, FpOk X pins H b) (Wk : WalksT X.prog X.w X.A it fpW wr n Pt St Mid) (hw : ∀ b ∈ wr, b ∈ fp) (st : St n s.heap) :
    wpAny (model X.prog X.w) X.A (pyNext (.ref it)) (fun r s1 => r = none ∧ Inv X pins σ H s1) E s :=
  Wk.done s _ _ st fun h' tk hk => ⟨rfl, I.turnedL (t' := tk) (ch := fp) (fun b o hb e => hk b o (fun z => hb (hw b z)) e) hf⟩
end
/-! #### enumerate -/
def ItE (K : PySem.W.Frag) (q : Src) (k0 : Int) : It :=
  ⟨fun i H => ∃ (xs : List V) (x : V), SrcAt K H q xs ∧ xs[i]? = some x, fun i H v H' => ∃ T x, v = .ref T ∧ H T = none ∧ H' = upd H T (.tup [.int (k0 + (i : Nat)), x]) ∧ ∀ xs, SrcAt K H q xs → xs[i]? = some x, fun i H => ∃ xs : List V, SrcAt K H q xs ∧ xs.length = i⟩
theorem turn_enumQ {P : Program} {w : World} {K : PySem.W.Frag} {elts : List Expr} {kk : Nat} {tpos : Pos} {q : Src} {k0 : Int} {e it : Addr} (h1 : e ≠ it) (h2 : e ≠ q.a) (h3 : q.a ≠ it) :
    Turn P w K (.Tuple elts kk tpos) (ItE K q k0) [e, it] e (fun i h => (∃ old, IsEnum h e it (k0 + (i : Int)) old) ∧ q.own it i h) where
  mem := by simp
  obj := fun i h st c hc => by
    obtain ⟨⟨old, he⟩, ho⟩ := st
    have e' : c = e ∨ c = it := by simpa using hc
    rcases e' with z | z
    · rw [z]; exact ⟨_, he, fun v q => nomatch q⟩
    · rw [z]; exact q.own_obj ho
  keep := fun i h h' st k => by
    obtain ⟨⟨old, he⟩, ho⟩ := st
    exact ⟨⟨old, k e (by simp) _ he⟩, q.own_at ho fun o z => k it (by simp) o z⟩
  item := by
    intro X hP hw hK hc i pins s σ H E I hf st hg
    subst hP hw hK
    obtain ⟨xs, x, hq, hx⟩ := hg
    obtain ⟨its, rv, p, _⟩ := Inv.src I hq
    obtain ⟨u, hu, ru⟩ := rv.get hx
    have hin : i < its.toArray.size := by simpa using (List.getElem?_eq_some_iff.mp hu).1
    have hd : X.A.in1.handled = none := I.ok.hd hc
    have D := Src.draws (prog := X.prog) (w := X.w) hd it q h3 its.toArray
    refine walk_item (fp := [e, it]) (tn := fun i h => (∃ old, IsEnum h e it (k0 + (i : Int)) old) ∧ q.own it i h) I hf (WalksT.enumFrom k0 D e h1 (by simp [h1, h2]) (by simp)) (fun b hb => by simpa using hb) (fun b hb => ?_) hin ⟨st.1, st.2, p⟩ (fun vals ⟨t, y, hy, ev⟩ => ?_) fun h st' => ⟨st'.1, st'.2.1⟩
    · obtain ⟨⟨old, he⟩, ho⟩ := st
      have e' : b = e ∨ b = it := by simpa using hb
      rcases e' with z | z
      · rw [z]; exact Heap.lt_size he
      · rw [z]; obtain ⟨o, ho', _⟩ := q.own_obj ho; exact Heap.lt_size ho'
    · have hy' : its[i]? = some y := by simpa using hy
      rw [hu] at hy'
      cases hy'
      refine ⟨[.int (k0 + (i : Nat)), x], by show 2 ≤ sizeLine; decide, by rw [ev]; exact .cons ⟨t, rfl⟩ (.cons ru .nil), fun T hT => ⟨T, x, rfl, hT, rfl, fun zs hz => by rw [Inv.src_inj I hz hq]; exact hx⟩⟩
  done := by
    intro X hP hw hK hc i pins s σ H E I hf st hg
    subst hP hw hK
    obtain ⟨xs, hq, hn⟩ := hg
    obtain ⟨its, rv, p, _⟩ := Inv.src I hq
    have hd : X.A.in1.handled = none := I.ok.hd hc
    have D := Src.draws (prog := X.prog) (w := X.w) hd it q h3 its.toArray
    have hi : i = its.toArray.size := by rw [List.size_toArray, ← rv.length]; exact hn.symm
    subst hi
    exact walk_done (fp := [e, it]) I hf (WalksT.enumFrom k0 D e h1 (by simp [h1, h2]) (by simp)) (fun b hb => by simpa using hb) ⟨st.1, st.2, p⟩
  self := fun A i s Q E st h => by
    obtain ⟨⟨old, he⟩, _⟩ := st
    exact wpAny_pyIter_enum he h
/-! #### zip of two -/
def ItZ2 (K : PySem.W.Frag) (q1 q2 : Src) : It :=
  ⟨fun i H => ∃ (xs ys : List V) (x y : V), SrcAt K H q1 xs ∧ SrcAt K H q2 ys ∧ xs[i]? = some x ∧ ys[i]? = some y,
    fun i H v H' => ∃ T x y, v = .ref T ∧ H T = none ∧ H' = upd H T (.tup [x, y]) ∧ (∀ xs, SrcAt K H q1 xs → xs[i]? = some x) ∧ ∀ ys, SrcAt K H q2 ys → ys[i]? = some y,
    fun i H => ∃ xs ys : List V, SrcAt K H q1 xs ∧ SrcAt K H q2 ys ∧ min xs.length ys.length = i⟩
theorem turn_z2 {P : Program} {w : World} {K : PySem.W.Frag} {elts : List Expr} {kk : Nat} {tpos : Pos} {q1 q2 : Src} {z TI TO i1 i2 : Addr} (S : ZipSep2 z TI TO i1 i2 [i1, q1.a] [i2, q2.a]) (n1 : q1.a ≠ i1) (n2 : q2.a ≠ i2) :
    Turn P w K (.Tuple elts kk tpos) (ItZ2 K q1 q2) [z, TI, TO, i1, i2] z (fun i h => IsZip h z TI TO .none ∧ IsTupOf2 h TI (.ref i1) (.ref i2) ∧ (∃ x y, IsTupOf2 h TO x y) ∧ q1.own i1 i h ∧ q2.own i2 i h) where
  mem := by simp
  obj := fun i h st c hc => by
    obtain ⟨hz, hTI, ⟨x, y, hTO⟩, o1, o2⟩ := st
    have e' : c = z ∨ c = TI ∨ c = TO ∨ c = i1 ∨ c = i2 := by simpa using hc
    rcases e' with q | q | q | q | q
    · rw [q]; exact ⟨_, hz, fun v q => nomatch q⟩
    · rw [q]; exact ⟨_, hTI, fun v q => nomatch q⟩
    · rw [q]; exact ⟨_, hTO, fun v q => nomatch q⟩
    · rw [q]; exact q1.own_obj o1
    · rw [q]; exact q2.own_obj o2
  keep := fun i h h' st k => by
    obtain ⟨hz, hTI, ⟨x, y, hTO⟩, o1, o2⟩ := st
    exact ⟨k z (by simp) _ hz, k TI (by simp) _ hTI, ⟨x, y, k TO (by simp) _ hTO⟩, q1.own_at o1 fun o q => k i1 (by simp) o q, q2.own_at o2 fun o q => k i2 (by simp) o q⟩
  item := by
    intro X hP hw hK hc i pins s σ H E I hf st hg
    subst hP hw hK
    obtain ⟨xs, ys, x, y, hq1, hq2, hx, hy⟩ := hg
    obtain ⟨its, rv, p, _⟩ := Inv.src I hq1
    obtain ⟨its2, rv2, p2, _⟩ := Inv.src I hq2
    obtain ⟨u, hu, ru⟩ := rv.get hx
    obtain ⟨u2, hu2, ru2⟩ := rv2.get hy
    have hin : i < min its.toArray.size its2.toArray.size := by
      have a := (List.getElem?_eq_some_iff.mp hu).1
      have b := (List.getElem?_eq_some_iff.mp hu2).1
      simp only [List.size_toArray]
      omega
    have hd : X.A.in1.handled = none := I.ok.hd hc
    have D1 := Src.draws (prog := X.prog) (w := X.w) hd i1 q1 n1 its.toArray
    have D2 := Src.draws (prog := X.prog) (w := X.w) hd i2 q2 n2 its2.toArray
    refine walk_item (fp := [z, TI, TO, i1, i2]) (tn := fun i h => IsZip h z TI TO .none ∧ IsTupOf2 h TI (.ref i1) (.ref i2) ∧ (∃ x y, IsTupOf2 h TO x y) ∧ q1.own i1 i h ∧ q2.own i2 i h) I hf (WalksT.zipD2 S D1 D2)
      (fun b hb => by simp at hb ⊢; rcases hb with h | h | h | h <;> simp [h]) (fun b hb => ?_) hin ⟨st.1, st.2.1, st.2.2.1, ⟨st.2.2.2.1, p⟩, st.2.2.2.2, p2⟩ (fun vals ⟨a1, a2, e1, e2, ev⟩ => ?_) fun h st' => ⟨st'.1, st'.2.1, st'.2.2.1, st'.2.2.2.1.1, st'.2.2.2.2.1⟩
    · obtain ⟨hz, hTI, ⟨x, y, hTO⟩, o1, o2⟩ := st
      have e' : b = z ∨ b = TI ∨ b = TO ∨ b = i1 ∨ b = i2 := by simpa using hb
      rcases e' with q | q | q | q | q
      · rw [q]; exact Heap.lt_size hz
      · rw [q]; exact Heap.lt_size hTI
      · rw [q]; exact Heap.lt_size hTO
      · rw [q]; obtain ⟨o, ho', _⟩ := q1.own_obj o1; exact Heap.lt_size ho'
      · rw [q]; obtain ⟨o, ho', _⟩ := q2.own_obj o2; exact Heap.lt_size ho'
    · have e1' : its[i]? = some a1 := by simpa using e1
      have e2' : its2[i]? = some a2 := by simpa using e2
      rw [hu] at e1'
      rw [hu2] at e2'
      cases e1'
      cases e2'
      exact ⟨[x, y], by show 2 ≤ sizeLine; decide, by rw [ev]; exact .cons ru (.cons ru2 .nil), fun T hT => ⟨T, x, y, rfl, hT, rfl, fun zs hz => by rw [Inv.src_inj I hz hq1]; exact hx, fun zs hz => by rw [Inv.src_inj I hz hq2]; exact hy⟩⟩
  done := by
    intro X hP hw hK hc i pins s σ H E I hf st hg
    subst hP hw hK
    obtain ⟨xs, ys, hq1, hq2, hn⟩ := hg
    obtain ⟨its, rv, p, _⟩ := Inv.src I hq1
    obtain ⟨its2, rv2, p2, _⟩ := Inv.src I hq2
    have hd : X.A.in1.handled = none := I.ok.hd hc
    have D1 := Src.draws (prog := X.prog) (w := X.w) hd i1 q1 n1 its.toArray
    have D2 := Src.draws (prog := X.prog) (w := X.w) hd i2 q2 n2 its2.toArray
    have hi : i = min its.toArray.size its2.toArray.size := by simp only [List.size_toArray]; rw [← rv.length, ← rv2.length]; exact hn.symm
    subst hi
    exact walk_done (fp := [z, TI, TO, i1, i2]) I hf (WalksT.zipD2 S D1 D2) (fun b hb => by simp at hb ⊢; rcases hb with h | h | h | h <;> simp [h]) ⟨st.1, st.2.1, st.2.2.1, ⟨st.2.2.2.1, p⟩, st.2.2.2.2, p2⟩
  self := fun A i s Q E st h => wpAny_pyIter_zip st.1 h
/-! #### zip of three -/
def ItZ3 (K : PySem.W.Frag) (q1 q2 q3 : Src) : It :=
  ⟨fun i H => ∃ (xs ys zs : List V) (x y z : V), SrcAt K H q1 xs ∧ SrcAt K H q2 ys ∧ SrcAt K H q3 zs ∧ xs[i]? = some x ∧ ys[i]? = some y ∧ zs[i]? = some z,
    fun i H v H' => ∃ T x y z, v = .ref T ∧ H T = none ∧ H' = upd H T (.tup [x, y, z]) ∧ (∀ xs, SrcAt K H q1 xs → xs[i]? = some x) ∧ (∀ ys, SrcAt K H q2 ys → ys[i]? = some y) ∧ ∀ zs, SrcAt K H q3 zs → zs[i]? = some z,
    fun i H => ∃ xs ys zs : List V, SrcAt K H q1 xs ∧ SrcAt K H q2 ys ∧ SrcAt K H q3 zs ∧ min (min xs.length ys.length) zs.length = i⟩
theorem turn_z3 {P : Program} {w : World} {K : PySem.W.Frag} {elts : List Expr} {kk : Nat} {tpos : Pos} {q1 q2 q3 : Src} {z TI TO i1 i2 i3 : Addr} (S : ZipSep3 z TI TO i1 i2 i3 [i1, q1.a] [i2, q2.a] [i3, q3.a]) (n1 : q1.a ≠ i1) (n2 : q2.a ≠ i2) (n3 : q3.a ≠ i3) :
    Turn P w K (.Tuple elts kk tpos) (ItZ3 K q1 q2 q3) [z, TI, TO, i1, i2, i3] z (fun i h => IsZip h z TI TO .none ∧ IsTupOf3 h TI (.ref i1) (.ref i2) (.ref i3) ∧ (∃ x y w, IsTupOf3 h TO x y w) ∧ q1.own i1 i h ∧ q2.own i2 i h ∧ q3.own i3 i h) where
  mem := by simp
  obj := fun i h st c hc => by
    obtain ⟨hz, hTI, ⟨x, y, w, hTO⟩, o1, o2, o3⟩ := st
    have e' : c = z ∨ c = TI ∨ c = TO ∨ c = i1 ∨ c = i2 ∨ c = i3 := by simpa using hc
    rcases e' with q | q | q | q | q | q
    · rw [q]; exact ⟨_, hz, fun v q => nomatch q⟩
    · rw [q]; exact ⟨_, hTI, fun v q => nomatch q⟩
    · rw [q]; exact ⟨_, hTO, fun v q => nomatch q⟩
    · rw [q]; exact q1.own_obj o1
    · rw [q]; exact q2.own_obj o2
    · rw [q]; exact q3.own_obj o3
  keep := fun i h h' st k => by
    obtain ⟨hz, hTI, ⟨x, y, w, hTO⟩, o1, o2, o3⟩ := st
    exact ⟨k z (by simp) _ hz, k TI (by simp) _ hTI, ⟨x, y, w, k TO (by simp) _ hTO⟩, q1.own_at o1 fun o q => k i1 (by simp) o q, q2.own_at o2 fun o q => k i2 (by simp) o q, q3.own_at o3 fun o q => k i3 (by simp) o q⟩
  item := by
    intro X hP hw hK hc i pins s σ H E I hf st hg
    subst hP hw hK
    obtain ⟨xs, ys, zs, x, y, w, hq1, hq2, hq3, hx, hy, hw⟩ := hg
    obtain ⟨its, rv, p, _⟩ := Inv.src I hq1
    obtain ⟨its2, rv2, p2, _⟩ := Inv.src I hq2
    obtain ⟨its3, rv3, p3, _⟩ := Inv.src I hq3
    obtain ⟨u, hu, ru⟩ := rv.get hx
    obtain ⟨u2, hu2, ru2⟩ := rv2.get hy
    obtain ⟨u3, hu3, ru3⟩ := rv3.get hw
    have hin : i < min (min its.toArray.size its2.toArray.size) its3.toArray.size := by
      have a := (List.getElem?_eq_some_iff.mp hu).1
      have b := (List.getElem?_eq_some_iff.mp hu2).1
      have c := (List.getElem?_eq_some_iff.mp hu3).1
      simp only [List.size_toArray]
      omega
    have hd : X.A.in1.handled = none := I.ok.hd hc
    have D1 := Src.draws (prog := X.prog) (w := X.w) hd i1 q1 n1 its.toArray
    have D2 := Src.draws (prog := X.prog) (w := X.w) hd i2 q2 n2 its2.toArray
    have D3 := Src.draws (prog := X.prog) (w := X.w) hd i3 q3 n3 its3.toArray
    refine walk_item (fp := [z, TI, TO, i1, i2, i3]) (tn := fun i h => IsZip h z TI TO .none ∧ IsTupOf3 h TI (.ref i1) (.ref i2) (.ref i3) ∧ (∃ x y w, IsTupOf3 h TO x y w) ∧ q1.own i1 i h ∧ q2.own i2 i h ∧ q3.own i3 i h) I hf (WalksT.zipD3 S D1 D2 D3)
      (fun b hb => by simp at hb ⊢; rcases hb with h | h | h | h | h <;> simp [h]) (fun b hb => ?_) hin ⟨st.1, st.2.1, st.2.2.1, ⟨st.2.2.2.1, p⟩, ⟨st.2.2.2.2.1, p2⟩, st.2.2.2.2.2, p3⟩ (fun vals ⟨a1, a2, a3, e1, e2, e3, ev⟩ => ?_) fun h st' => ⟨st'.1, st'.2.1, st'.2.2.1, st'.2.2.2.1.1, st'.2.2.2.2.1.1, st'.2.2.2.2.2.1⟩
    · obtain ⟨hz, hTI, ⟨x, y, w, hTO⟩, o1, o2, o3⟩ := st
      have e' : b = z ∨ b = TI ∨ b = TO ∨ b = i1 ∨ b = i2 ∨ b = i3 := by simpa using hb
      rcases e' with q | q | q | q | q | q
      · rw [q]; exact Heap.lt_size hz
      · rw [q]; exact Heap.lt_size hTI
      · rw [q]; exact Heap.lt_size hTO
      · rw [q]; obtain ⟨o, ho', _⟩ := q1.own_obj o1; exact Heap.lt_size ho'
      · rw [q]; obtain ⟨o, ho', _⟩ := q2.own_obj o2; exact Heap.lt_size ho'
      · rw [q]; obtain ⟨o, ho', _⟩ := q3.own_obj o3; exact Heap.lt_size ho'
    · have e1' : its[i]? = some a1 := by simpa using e1
      have e2' : its2[i]? = some a2 := by simpa using e2
      have e3' : its3[i]? = some a3 := by simpa using e3
      rw [hu] at e1'
      rw [hu2] at e2'
      rw [hu3] at e3'
      cases e1'
      cases e2'
      cases e3'
      exact ⟨[x, y, w], by show 3 ≤ sizeLine; decide, by rw [ev]; exact .cons ru (.cons ru2 (.cons ru3 .nil)), fun T hT => ⟨T, x, y, w, rfl, hT, rfl, fun zs hz => by rw [Inv.src_inj I hz hq1]; exact hx, fun zs hz => by rw [Inv.src_inj I hz hq2]; exact hy, fun zs hz => by rw [Inv.src_inj I hz hq3]; exact hw⟩⟩
  done := by
    intro X hP hw hK hc i pins s σ H E I hf st hg
    subst hP hw hK
    obtain ⟨xs, ys, zs, hq1, hq2, hq3, hn⟩ := hg
    obtain ⟨its, rv, p, _⟩ := Inv.src I hq1
    obtain ⟨its2, rv2, p2, _⟩ := Inv.src I hq2
    obtain ⟨its3, rv3, p3, _⟩ := Inv.src I hq3
    have hd : X.A.in1.handled = none := I.ok.hd hc
    have D1 := Src.draws (prog := X.prog) (w := X.w) hd i1 q1 n1 its.toArray
    have D2 := Src.draws (prog := X.prog) (w := X.w) hd i2 q2 n2 its2.toArray
    have D3 := Src.draws (prog := X.prog) (w := X.w) hd i3 q3 n3 its3.toArray
    have hi : i = min (min its.toArray.size its2.toArray.size) its3.toArray.size := by simp only [List.size_toArray]; rw [← rv.length, ← rv2.length, ← rv3.length]; exact hn.symm
    subst hi
    exact walk_done (fp := [z, TI, TO, i1, i2, i3]) I hf (WalksT.zipD3 S D1 D2 D3) (fun b hb => by simp at hb ⊢; rcases hb with h | h | h | h | h <;> simp [h]) ⟨st.1, st.2.1, st.2.2.1, ⟨st.2.2.2.1, p⟩, ⟨st.2.2.2.2.1, p2⟩, st.2.2.2.2.2, p3⟩
  self := fun A i s Q E st h => wpAny_pyIter_zip st.1 h
/-! #### the iterables as expressions -/
def iEnumQ (K : PySem.W.Frag) (ta : TA) : L2.TI := fun σ H R => ta σ H fun vs H1 => ∃ (q : Src) (xs : List V), vs = [.ref q.a] ∧ SrcAt K H1 q xs ∧ R (ItE K q 0) H1
open Sem (wp) in
open AutoSeq1 (wpAny_loadPart') in
theorem meets_enumerate_newB1 {v : Value} {o : Obj} {H : Heap → Prop} (B : Begins v o H) :
    Meets (Builtin.«enumerate.__new__» ⟨[.type "enumerate", v], []⟩) (fun _ R s => H s.heap ∧
      R (.ok (.ret (.ref (s.heap.push o).objs.size))) { s with heap := (s.heap.push o).push { cls := .type "enumerate", data := .fields #[.none, .bool false, .ref s.heap.objs.size, rawInt 0, .none, .none] } }) :=
  .of_wp fun prog w A R s h => by
    obtain ⟨hp, g, d, tk, os⟩ := s; obtain ⟨h1, h⟩ := h
    have hsub := sub_enumerate
    have q1 : ∀ {A' : Around} {E : Value → Shared → Prop} {Q : Value → Shared → Prop}, Q (.ref hp.objs.size) ⟨hp.push o, g, d, tk, os⟩ → wpAny (model prog w) A' (pyIter v) Q E ⟨hp, g, d, tk, os⟩ :=
      fun q => B.iter prog w _ _ ⟨hp, g, d, tk, os⟩ _ h1 q
    wp_walk using q1
    refine wpAny_stack_any fun st => wpAny_pure ?_
    split
    · rename_i c _ _ _ _ _
      cases (c == Value.type "enumerate")
      · wp_walk using q1
        exact ⟨_, rfl, h⟩
      · wp_walk using q1
        exact ⟨_, rfl, h⟩
    · wp_walk using q1
      exact ⟨_, rfl, h⟩
theorem enum_begins1 {prog : Program} {w : World} {A : Around} {E : Value → Shared → Prop} {s : Shared} {v : Value} {o : Obj} {H : Heap → Prop} {Q : Value → Shared → Prop} (B : Begins v o H) (h1 : H s.heap)
    (h : ∀ h', IsEnum h' (s.heap.objs.size + 1) s.heap.objs.size 0 .none → h'.get? s.heap.objs.size = some o → h'.objs.size = s.heap.objs.size + 2 →
      (∀ b o, s.heap.get? b = some o → h'.get? b = some o) → Q (.ref (s.heap.objs.size + 1)) { s with heap := h' }) :
    wpAny (model prog w) A (call (.type "enumerate") [v]) Q E s := by
  refine callType_new F.called_enumerate (by decide) (F.typeCall_enumerate_1 _) (F.newCall_enumerate_1 _) (fun obj => F.args_object_init_2 obj _) F.entry_enumerate_new
    (meets_enumerate_newB1 B) ⟨h1, ?_⟩
  have hz : (s.heap.push o).objs.size = s.heap.objs.size + 1 := Heap.size_push ..
  show _ ∧ _
  rw [hz]
  have he : IsEnum ((s.heap.push o).push { cls := .type "enumerate", data := .fields #[.none, .bool false, .ref s.heap.objs.size, rawInt 0, .none, .none] }) (s.heap.objs.size + 1) s.heap.objs.size 0 .none := by
    have := Heap.get?_push_size (s.heap.push o) (o := { cls := .type "enumerate", data := .fields #[.none, .bool false, .ref s.heap.objs.size, rawInt 0, .none, .none] }) rfl
    rw [hz] at this; exact this
  refine ⟨⟨_, he, rfl⟩, h _ he (Heap.get?_push_of_some _ (Heap.get?_push_size _ B.free)) (by rw [Heap.size_push, hz]) fun b o x => Heap.get?_push_of_some _ (Heap.get?_push_of_some _ x)⟩
theorem pi_enumQ {X : Cx} {e : Expr} {ta : TA} {p pos tpos : Pos} {elts : List Expr} {kk : Nat} (hg : Gl X "enumerate") (hm : X.mg "enumerate" = none) (ha : PA X [e] ta) (hs : starEach [e] X.env = [(false, eval e X.env)] := by rfl) : PI X (.Tuple elts kk tpos) (.Call (.Name "enumerate" p) [e] [] pos) (iEnumQ X.K ta) := by
  refine ⟨fun pins s σ H R I h => ?_⟩
  refine Call_ (ld_blt I hg hm boot_enumerate (PyProof.Rows.callWith_type1 (thn (ha.run pos pins s σ H _ I h) fun us s1 ⟨vs, H1, I1, r1, q1⟩ => ?_) hs rfl))
  obtain ⟨qa, xs, ex, hq, q⟩ := q1
  subst ex
  cases r1 with
  | cons r rr =>
    cases rr
    cases r
    obtain ⟨its, rv, p1, l1⟩ := Inv.src I1 hq
    refine enum_begins1 (qa.begins its.toArray) p1 fun h' he e1 hsz hk => wpAny_pyIter_enum he ?_
    have I2 : Inv X pins σ H1 { s1 with heap := h' } := I1.kept (t' := s1.toks) hk
    refine ⟨s1.heap.objs.size + 1, [s1.heap.objs.size + 1, s1.heap.objs.size], _, _, H1, rfl, I2, turn_enumQ (q := qa) (k0 := 0) (Nat.succ_ne_self _) (Nat.ne_of_gt (Nat.lt_succ_of_lt l1)) (Nat.ne_of_lt l1), ⟨⟨.none, he⟩, qa.own0 e1⟩, fun b hb => ?_, q⟩
    have e' : b = s1.heap.objs.size + 1 ∨ b = s1.heap.objs.size := by simpa using hb
    have hle : s1.heap.objs.size ≤ b := by
      rcases e' with z | z
      · rw [z]; exact Nat.le_add_right _ _
      · rw [z]; exact Nat.le_refl _
    exact I1.fpOk hle (I1.hok.fresh hle)
def iZip2Q (K : PySem.W.Frag) (ta : TA) : L2.TI := fun σ H R => ta σ H fun vs H1 => ∃ (q1 q2 : Src) (xs ys : List V), vs = [.ref q1.a, .ref q2.a] ∧ SrcAt K H1 q1 xs ∧ SrcAt K H1 q2 ys ∧ R (ItZ2 K q1 q2) H1
theorem pi_zip2Q {X : Cx} {e e2 : Expr} {ta : TA} {p pos tpos : Pos} {elts : List Expr} {kk : Nat} (hg : Gl X "zip") (hm : X.mg "zip" = none) (ha : PA X [e, e2] ta)
    (hs : starEach [e, e2] X.env = (false, eval e X.env) :: starEach [e2] X.env := by rfl) (hpl : (backTo pos (starEach [e2] X.env)).any (·.1) = false := by rfl) :
    PI X (.Tuple elts kk tpos) (.Call (.Name "zip" p) [e, e2] [] pos) (iZip2Q X.K ta) := by
  refine ⟨fun pins s σ H R I h => ?_⟩
  refine Call_ (ld_blt I hg hm PyProof.Rows.boot_zip (PyProof.Rows.callWith_type1 (thn (ha.run pos pins s σ H _ I h) fun us s1 ⟨vs, H1, I1, r1, q1⟩ => ?_) hs hpl))
  obtain ⟨qa, qb, xs, ys, ex, h1, h2, q⟩ := q1
  subst ex
  cases r1 with
  | cons r rr =>
    cases rr with
    | cons r' rr =>
      cases rr
      cases r
      cases r'
      obtain ⟨its, rv, p1, l1⟩ := Inv.src I1 h1
      obtain ⟨its2, rv2, p2, l2⟩ := Inv.src I1 h2
      refine zip_begins2 (qa.begins its.toArray) (qb.begins its2.toArray) p1 p2 fun h' hz hTI hTO e1 e2 hsz hk => wpAny_pyIter_zip hz ?_
      have I2 : Inv X pins σ H1 { s1 with heap := h' } := I1.kept (t' := s1.toks) hk
      refine ⟨s1.heap.objs.size + 4, [s1.heap.objs.size + 4, s1.heap.objs.size + 2, s1.heap.objs.size + 3, s1.heap.objs.size, s1.heap.objs.size + 1], _, _, H1, rfl, I2,
        turn_z2 (zip_sep2 (fun b hb => ?_) (fun b hb => ?_)) (Nat.ne_of_lt l1) (Nat.ne_of_lt (Nat.lt_succ_of_lt l2)), ⟨hz, hTI, ⟨_, _, hTO⟩, qa.own0 e1, qb.own0 e2⟩, fun c hcm => ?_, q⟩
      · rw [List.mem_singleton.mp hb]; exact l1
      · rw [List.mem_singleton.mp hb]; exact l2
      · have e' : c = s1.heap.objs.size + 4 ∨ c = s1.heap.objs.size + 2 ∨ c = s1.heap.objs.size + 3 ∨ c = s1.heap.objs.size ∨ c = s1.heap.objs.size + 1 := by simpa using hcm
        have hle : s1.heap.objs.size ≤ c := by rcases e' with z | z | z | z | z <;> rw [z] <;> first | exact Nat.le_refl _ | exact Nat.le_add_right _ _
        exact I1.fpOk hle (I1.hok.fresh hle)
def iZip3Q (K : PySem.W.Frag) (ta : TA) : L2.TI := fun σ H R => ta σ H fun vs H1 => ∃ (q1 q2 q3 : Src) (xs ys zs : List V), vs = [.ref q1.a, .ref q2.a, .ref q3.a] ∧ SrcAt K H1 q1 xs ∧ SrcAt K H1 q2 ys ∧ SrcAt K H1 q3 zs ∧ R (ItZ3 K q1 q2 q3) H1
theorem pi_zip3Q {X : Cx} {e e2 e3 : Expr} {ta : TA} {p pos tpos : Pos} {elts : List Expr} {kk : Nat} (hg : Gl X "zip") (hm : X.mg "zip" = none) (ha : PA X [e, e2, e3] ta)
    (hs : starEach [e, e2, e3] X.env = (false, eval e X.env) :: starEach [e2, e3] X.env := by rfl) (hpl : (backTo pos (starEach [e2, e3] X.env)).any (·.1) = false := by rfl) :
    PI X (.Tuple elts kk tpos) (.Call (.Name "zip" p) [e, e2, e3] [] pos) (iZip3Q X.K ta) := by
  refine ⟨fun pins s σ H R I h => ?_⟩
  refine Call_ (ld_blt I hg hm PyProof.Rows.boot_zip (PyProof.Rows.callWith_type1 (thn (ha.run pos pins s σ H _ I h) fun us s1 ⟨vs, H1, I1, r1, q1⟩ => ?_) hs hpl))
  obtain ⟨qa, qb, qc, xs, ys, zs, ex, h1, h2, h3, q⟩ := q1
  subst ex
  cases r1 with
  | cons r rr =>
    cases rr with
    | cons r' rr =>
      cases rr with
      | cons r'' rr =>
        cases rr
        cases r
        cases r'
        cases r''
        obtain ⟨its, rv, p1, l1⟩ := Inv.src I1 h1
        obtain ⟨its2, rv2, p2, l2⟩ := Inv.src I1 h2
        obtain ⟨its3, rv3, p3, l3⟩ := Inv.src I1 h3
        refine zip_begins3 (qa.begins its.toArray) (qb.begins its2.toArray) (qc.begins its3.toArray) p1 p2 p3 fun h' hz hTI hTO e1 e2 e3 hsz hk => wpAny_pyIter_zip hz ?_
        have I2 : Inv X pins σ H1 { s1 with heap := h' } := I1.kept (t' := s1.toks) hk
        refine ⟨s1.heap.objs.size + 5, [s1.heap.objs.size + 5, s1.heap.objs.size + 3, s1.heap.objs.size + 4, s1.heap.objs.size, s1.heap.objs.size + 1, s1.heap.objs.size + 2], _, _, H1, rfl, I2,
          turn_z3 (zip_sep3 (fun b hb => ?_) (fun b hb => ?_) (fun b hb => ?_)) (Nat.ne_of_lt l1) (Nat.ne_of_lt (Nat.lt_succ_of_lt l2)) (Nat.ne_of_lt (Nat.lt_succ_of_lt (Nat.lt_succ_of_lt l3))), ⟨hz, hTI, ⟨_, _, _, hTO⟩, qa.own0 e1, qb.own0 e2, qc.own0 e3⟩, fun c hcm => ?_, q⟩
        · rw [List.mem_singleton.mp hb]; exact l1
        · rw [List.mem_singleton.mp hb]; exact l2
        · rw [List.mem_singleton.mp hb]; exact l3
        · have e' : c = s1.heap.objs.size + 5 ∨ c = s1.heap.objs.size + 3 ∨ c = s1.heap.objs.size + 4 ∨ c = s1.heap.objs.size ∨ c = s1.heap.objs.size + 1 ∨ c = s1.heap.objs.size + 2 := by simpa using hcm
          have hle : s1.heap.objs.size ≤ c := by rcases e' with z | z | z | z | z | z <;> rw [z] <;> first | exact Nat.le_refl _ | exact Nat.le_add_right _ _
          exact I1.fpOk hle (I1.hok.fresh hle)
/-! #### .. on data -/
section
variable {C : DC} {a b c e : Expr} {ta tb tc : TV} {pos p tpos : Pos} {elts : List Expr} {kk : Nat}
theorem dp_src {K : PySem.W.Frag} {H : Hp} {v : V} {x : D} {xs : List D} (h : Dp K H v x) (e : seqD x = some xs) : ∃ (q : Src) (vs : List V), v = .ref q.a ∧ SrcAt K H q vs ∧ DpAll K H vs xs := by
  cases x with
  | list ys =>
    cases e
    obtain ⟨a, vs, e1, h1, h2⟩ := dp_list_inv h
    exact ⟨.lst a, vs, e1, h1, h2⟩
  | tuple ys =>
    cases e
    obtain ⟨a, vs, e1, h1, h2⟩ := dp_tup_inv h
    exact ⟨.tup a, vs, e1, h1, h2⟩
  | _ => cases e
theorem src_mono {K : PySem.W.Frag} {H H' : Hp} {q : Src} {xs : List V} (e : ∀ b o, H b = some o → H' b = some o) (h : SrcAt K H q xs) : SrcAt K H' q xs := by
  cases q with
  | lst a => exact sqL_mono e h
  | tup a => exact sqT_mono e h
/-- the items (i, x) -/
def enumD (xs : List D) : List D := xs.mapIdx fun i x => .tuple [.int (i : Nat), x]
def tiEnum (t : TV) : TID := fun δ Q => t δ fun x => ∃ xs, seqD x = some xs ∧ xs.length ≤ 2 ^ 62 ∧ Q (enumD xs)
theorem tup2 {W : Wd} {H : Hp} {T : Addr} {v u : V} {x y : D} (w : WOk C.ρ W H) (hT : H T = none) (r1 : Dp C.X.K W.b v x) (r2 : Dp C.X.K W.b u y) : ∃ W', WOk C.ρ W' (upd H T (.tup [v, u])) ∧ Step W H W' (upd H T (.tup [v, u])) ∧ Dp C.X.K W'.b (.ref T) (.tuple [x, y]) :=
  ⟨_, w.put hT, Step.put w.bH hT, put_tup w hT (.cons r1 (.cons r2 .nil))⟩
theorem di_enum (hm : C.X.mg "enumerate" = none) (h : DV C e ta) (hg : Gl C.X "enumerate" := by rfl) (hs : starEach [e] C.X.env = [(false, eval e C.X.env)] := by rfl) : DI C (.Tuple elts kk tpos) (.Call (.Name "enumerate" p) [e] [] pos) (tiEnum ta) := by
  obtain ⟨tv, h1, h2⟩ := h
  refine ⟨_, pi_enumQ hg hm (pa_cons h1 pa_nil hs) hs, fun δ σ W H Q R sat q k => h2 δ σ W H _ _ sat q fun v W1 H1 x s1 st1 r1 ⟨xs, e, hz, q1⟩ => ?_⟩
  obtain ⟨qs, vs, rfl, g1, g2⟩ := dp_src r1 e
  refine ⟨qs, vs, rfl, src_mono s1.ok.bH g1, k _ (enumD xs) W1 H1 s1 st1 (fun W H w l => ?_) (by unfold enumD; rw [List.length_mapIdx]; exact hz) q1⟩
  have g1' := src_mono w.bH (src_mono l g1)
  refine ⟨fun i x e => ?_, ⟨vs, g1', by unfold enumD; rw [List.length_mapIdx]; exact dpAll_len g2⟩⟩
  unfold enumD at e
  rw [List.getElem?_mapIdx] at e
  cases q : xs[i]? with
  | none => rw [q] at e; cases e
  | some y =>
    rw [q] at e
    cases e
    obtain ⟨v, e1, r⟩ := dpAll_get g2 q
    refine ⟨⟨vs, v, g1', e1⟩, fun u H' yl => ?_⟩
    obtain ⟨T, z, eu, hT, eH, hz⟩ := yl
    have e2 := hz vs g1'
    rw [e1] at e2
    cases e2
    subst eu eH
    have e0 : (0 : Int) + (i : Nat) = (i : Nat) := by omega
    rw [e0]
    exact tup2 w hT (.int _) (dp_mono l r)
/-- the pairs -/
def zipD : List D → List D → List D
  | x :: xs, y :: ys => .tuple [x, y] :: zipD xs ys
  | _, _ => []
theorem zipD_len : ∀ xs ys : List D, (zipD xs ys).length = min xs.length ys.length
  | [], _ => by simp [zipD]
  | _ :: _, [] => by simp [zipD]
  | x :: xs, y :: ys => by simp only [zipD, List.length_cons, zipD_len xs ys]; omega
theorem zipD_get : ∀ {xs ys : List D} {i : Nat} {z : D}, (zipD xs ys)[i]? = some z → ∃ x y, xs[i]? = some x ∧ ys[i]? = some y ∧ z = .tuple [x, y]
  | [], _, _, _, h => by simp [zipD] at h
  | _ :: _, [], _, _, h => by simp [zipD] at h
  | x :: xs, y :: ys, 0, z, h => by simp [zipD] at h; exact ⟨x, y, rfl, rfl, h.symm⟩
  | x :: xs, y :: ys, i + 1, z, h => by
    obtain ⟨a, b, h1, h2, h3⟩ := zipD_get (xs := xs) (ys := ys) (i := i) (by simpa [zipD] using h)
    exact ⟨a, b, by simpa using h1, by simpa using h2, h3⟩
def tiZip (ta tb : TV) : TID := fun δ Q => ta δ fun x => tb δ fun y => ∃ xs ys, seqD x = some xs ∧ seqD y = some ys ∧ xs.length ≤ 2 ^ 62 ∧ Q (zipD xs ys)
theorem di_zip (hm : C.X.mg "zip" = none) (h : DV C a ta) (h' : DV C b tb) (hg : Gl C.X "zip" := by rfl) (hs : starEach [a, b] C.X.env = (false, eval a C.X.env) :: starEach [b] C.X.env := by rfl) (hs2 : starEach [b] C.X.env = (false, eval b C.X.env) :: starEach [] C.X.env := by rfl)
    (hpl : (backTo pos (starEach [b] C.X.env)).any (·.1) = false := by rfl) : DI C (.Tuple elts kk tpos) (.Call (.Name "zip" p) [a, b] [] pos) (tiZip ta tb) := by
  obtain ⟨tv, h1, h2⟩ := h
  obtain ⟨tw, f1, f2⟩ := h'
  refine ⟨_, pi_zip2Q hg hm (pa_cons h1 (pa_cons f1 pa_nil hs2) hs) hs hpl, fun δ σ W H Q R sat q k => h2 δ σ W H _ _ sat q fun v W1 H1 x s1 st1 r1 q1 => ?_⟩
  refine f2 δ σ W1 H1 _ _ s1 q1 fun u W2 H2 y s2 st2 r2 ⟨xs, ys, ex, ey, hz, q2⟩ => ?_
  obtain ⟨qa, vs, rfl, g1, g2⟩ := dp_src (dp_mono st2.b r1) ex
  obtain ⟨qb, us, rfl, k1, k2⟩ := dp_src r2 ey
  refine ⟨qa, qb, vs, us, rfl, src_mono s2.ok.bH g1, src_mono s2.ok.bH k1, k _ (zipD xs ys) W2 H2 s2 (st1.trans st2) (fun W H w l => ?_) (by rw [zipD_len]; omega) q2⟩
  have g1' := src_mono w.bH (src_mono l g1)
  have k1' := src_mono w.bH (src_mono l k1)
  refine ⟨fun i z e => ?_, ⟨vs, us, g1', k1', by rw [zipD_len, dpAll_len g2, dpAll_len k2]⟩⟩
  obtain ⟨x, y, e1, e2, rfl⟩ := zipD_get e
  obtain ⟨v, ev, r⟩ := dpAll_get g2 e1
  obtain ⟨u, eu, r'⟩ := dpAll_get k2 e2
  refine ⟨⟨vs, us, v, u, g1', k1', ev, eu⟩, fun t H' yl => ?_⟩
  obtain ⟨T, a1, a2, et, hT, eH, hz1, hz2⟩ := yl
  have e3 := hz1 vs g1'
  have e4 := hz2 us k1'
  rw [ev] at e3
  rw [eu] at e4
  cases e3
  cases e4
  subst et eH
  exact tup2 w hT (dp_mono l r) (dp_mono l r')
/-- the triples -/
def zipD3 : List D → List D → List D → List D
  | x :: xs, y :: ys, z :: zs => .tuple [x, y, z] :: zipD3 xs ys zs
  | _, _, _ => []
theorem zipD3_len : ∀ xs ys zs : List D, (zipD3 xs ys zs).length = min (min xs.length ys.length) zs.length
  | [], _, _ => by simp [zipD3]
  | _ :: _, [], _ => by simp [zipD3]
  | _ :: _, _ :: _, [] => by simp [zipD3]
  | x :: xs, y :: ys, z :: zs => by simp only [zipD3, List.length_cons, zipD3_len xs ys zs]; omega
theorem zipD3_get : ∀ {xs ys zs : List D} {i : Nat} {t : D}, (zipD3 xs ys zs)[i]? = some t → ∃ x y z, xs[i]? = some x ∧ ys[i]? = some y ∧ zs[i]? = some z ∧ t = .tuple [x, y, z]
  | [], _, _, _, _, h => by simp [zipD3] at h
  | _ :: _, [], _, _, _, h => by simp [zipD3] at h
  | _ :: _, _ :: _, [], _, _, h => by simp [zipD3] at h
  | x :: xs, y :: ys, z :: zs, 0, t, h => by simp [zipD3] at h; exact ⟨x, y, z, rfl, rfl, rfl, h.symm⟩
  | x :: xs, y :: ys, z :: zs, i + 1, t, h => by
    obtain ⟨a, b, c, h1, h2, h3, h4⟩ := zipD3_get (xs := xs) (ys := ys) (zs := zs) (i := i) (by simpa [zipD3] using h)
    exact ⟨a, b, c, by simpa using h1, by simpa using h2, by simpa using h3, h4⟩
def tiZip3 (ta tb tc : TV) : TID := fun δ Q => ta δ fun x => tb δ fun y => tc δ fun z => ∃ xs ys zs, seqD x = some xs ∧ seqD y = some ys ∧ seqD z = some zs ∧ xs.length ≤ 2 ^ 62 ∧ Q (zipD3 xs ys zs)
theorem di_zip3 (hm : C.X.mg "zip" = none) (h : DV C a ta) (h' : DV C b tb) (h'' : DV C c tc) (hg : Gl C.X "zip" := by rfl) (hs : starEach [a, b, c] C.X.env = (false, eval a C.X.env) :: starEach [b, c] C.X.env := by rfl) (hs2 : starEach [b, c] C.X.env = (false, eval b C.X.env) :: starEach [c] C.X.env := by rfl)
    (hs3 : starEach [c] C.X.env = (false, eval c C.X.env) :: starEach [] C.X.env := by rfl) (hpl : (backTo pos (starEach [b, c] C.X.env)).any (·.1) = false := by rfl) : DI C (.Tuple elts kk tpos) (.Call (.Name "zip" p) [a, b, c] [] pos) (tiZip3 ta tb tc) := by
  obtain ⟨tv, h1, h2⟩ := h
  obtain ⟨tw, f1, f2⟩ := h'
  obtain ⟨tx, d1, d2⟩ := h''
  refine ⟨_, pi_zip3Q hg hm (pa_cons h1 (pa_cons f1 (pa_cons d1 pa_nil hs3) hs2) hs) hs hpl, fun δ σ W H Q R sat q k => h2 δ σ W H _ _ sat q fun v W1 H1 x s1 st1 r1 q1 => ?_⟩
  refine f2 δ σ W1 H1 _ _ s1 q1 fun u W2 H2 y s2 st2 r2 q2 => ?_
  refine d2 δ σ W2 H2 _ _ s2 q2 fun t W3 H3 z s3 st3 r3 ⟨xs, ys, zs, ex, ey, ez, hz, q3⟩ => ?_
  obtain ⟨qa, vs, rfl, g1, g2⟩ := dp_src (dp_mono (st2.trans st3).b r1) ex
  obtain ⟨qb, us, rfl, k1, k2⟩ := dp_src (dp_mono st3.b r2) ey
  obtain ⟨qc, ts, rfl, l1, l2⟩ := dp_src r3 ez
  refine ⟨qa, qb, qc, vs, us, ts, rfl, src_mono s3.ok.bH g1, src_mono s3.ok.bH k1, src_mono s3.ok.bH l1, k _ (zipD3 xs ys zs) W3 H3 s3 ((st1.trans st2).trans st3) (fun W H w l => ?_) (by rw [zipD3_len]; omega) q3⟩
  have g1' := src_mono w.bH (src_mono l g1)
  have k1' := src_mono w.bH (src_mono l k1)
  have l1' := src_mono w.bH (src_mono l l1)
  refine ⟨fun i z e => ?_, ⟨vs, us, ts, g1', k1', l1', by rw [zipD3_len, dpAll_len g2, dpAll_len k2, dpAll_len l2]⟩⟩
  obtain ⟨x, y, z', e1, e2, e3, rfl⟩ := zipD3_get e
  obtain ⟨v, ev, r⟩ := dpAll_get g2 e1
  obtain ⟨u, eu, r'⟩ := dpAll_get k2 e2
  obtain ⟨t, et, r''⟩ := dpAll_get l2 e3
  refine ⟨⟨vs, us, ts, v, u, t, g1', k1', l1', ev, eu, et⟩, fun o H' yl => ?_⟩
  obtain ⟨T, a1, a2, a3, eo, hT, eH, hz1, hz2, hz3⟩ := yl
  have e4 := hz1 vs g1'
  have e5 := hz2 us k1'
  have e6 := hz3 ts l1'
  rw [ev] at e4
  rw [eu] at e5
  rw [et] at e6
  cases e4
  cases e5
  cases e6
  subst eo eH
  exact ⟨_, w.put hT, Step.put w.bH hT, put_tup w hT (.cons (dp_mono l r) (.cons (dp_mono l r') (.cons (dp_mono l r'') .nil)))⟩
end
end DL

-- part DLj
namespace DL
open PySem PySem.Spec PyProof.Rows L2
/-! ### a def of the top by its name -/
def fdOf (K : PySem.W.Frag) (x : Str) : FuncData := match K.lookup (He.ga K x) with
  | some ⟨_, _, .func fd, _⟩ => fd
  | _ => default
structure Def (K : PySem.W.Frag) (mg : Str → Option Value) (x : Str) (st : Stmt) : Prop where
  F : FunD K x x (defArgs st) (defBody st) (defScope st) [] [] (He.ga K x) (fdOf K x)
  g : mg x = some (.ref (He.ga K x))
theorem Def.of {K : PySem.W.Frag} {mg : Str → Option Value} {x : Str} {st : Stmt} (h : ∃ fd, FunD K x x (defArgs st) (defBody st) (defScope st) [] [] (He.ga K x) fd) (g : mg x = some (.ref (He.ga K x))) : Def K mg x st := by
  obtain ⟨fd, F⟩ := h
  have e : fdOf K x = fd := by
    obtain ⟨oc, od, dV, kV, doc, pm, an, cdv, ct, osl, e, lk, _⟩ := F.ex
    unfold fdOf
    rw [lk]
  exact ⟨by rw [e]; exact F, g⟩
end DL

-- part DLr
/-! fractions: promises of the program's ratios and of the law's own -/
namespace DL
open PySem PySem.Spec PyProof.Rows L2
/-! ### sizes -/
abbrev Bd (n : Nat) (i : Int) : Prop := i.natAbs < 2 ^ n
theorem Bd.mono {m n : Nat} {i : Int} (h : Bd m i) (l : m ≤ n) : Bd n i := Nat.lt_of_lt_of_le h (Nat.pow_le_pow_right (by decide) l)
theorem Bd.mul {m n : Nat} {i j : Int} (h : Bd m i) (h' : Bd n j) : Bd (m + n) (i * j) := by
  unfold Bd at *
  rw [Int.natAbs_mul, Nat.pow_add]
  exact Nat.mul_lt_mul_of_lt_of_le h (Nat.le_of_lt h') (Nat.pos_of_ne_zero (by have := Nat.pow_pos (n := n) (show 0 < 2 by decide); omega))
theorem Bd.add {m n : Nat} {i j : Int} (h : Bd m i) (h' : Bd n j) : Bd (m + n + 1) (i + j) := by
  unfold Bd at *
  have h1 := Int.natAbs_add_le i j
  have h2 : 2 ^ m ≤ 2 ^ (m + n) := Nat.pow_le_pow_right (by decide) (Nat.le_add_right _ _)
  have h3 : 2 ^ n ≤ 2 ^ (m + n) := Nat.pow_le_pow_right (by decide) (Nat.le_add_left _ _)
  have h4 : 2 ^ (m + n + 1) = 2 ^ (m + n) + 2 ^ (m + n) := by rw [Nat.pow_succ]; omega
  omega
theorem Bd.add' {n : Nat} {i j : Int} (h : Bd n i) (h' : Bd n j) : Bd (n + 1) (i + j) := by
  unfold Bd at *
  have h1 := Int.natAbs_add_le i j
  have h4 : 2 ^ (n + 1) = 2 ^ n + 2 ^ n := by rw [Nat.pow_succ]; omega
  omega
theorem Bd.neg {n : Nat} {i : Int} (h : Bd n i) : Bd n (-i) := by
  unfold Bd at *
  rw [Int.natAbs_neg]
  exact h
theorem Bd.log {n : Nat} {i : Int} (h : Bd n i) (h0 : 0 < n) : i.natAbs.log2 < n := PySem.Flt.log2_lt_of h0 h
theorem Bd.cmul {m n : Nat} {i j : Int} (h : Bd m i) (h' : Bd n j) (hl : m + n + 2 ≤ 1000000) : CMulW i j := wide_mul (a := m + 1) (b := n + 1) (h.mono (by omega)) (h'.mono (by omega)) (by omega) (by omega) (by omega)
/-- a fraction's number and its size -/
def fr (q : Rat) : D := .tuple [.int q.num, .int (q.den : Nat)]
abbrev dv (a b : Int) : Rat := Rat.divInt a b
def Ok (n : Nat) (q : Rat) : Prop := q.num.natAbs < 2 ^ n ∧ q.den < 2 ^ n
theorem Ok.mono {m n : Nat} {q : Rat} (h : Ok m q) (l : m ≤ n) : Ok n q := ⟨Nat.lt_of_lt_of_le h.1 (Nat.pow_le_pow_right (by decide) l), Nat.lt_of_lt_of_le h.2 (Nat.pow_le_pow_right (by decide) l)⟩
theorem dv_self (q : Rat) : dv q.num q.den = q := Rat.num_divInt_den q
theorem dv_natAbs {a b : Int} (hb : b ≠ 0) : (dv a b).num.natAbs ≤ a.natAbs ∧ (dv a b).den ≤ b.natAbs := by
  refine ⟨?_, ?_⟩
  · rw [Rat.num_divInt, Int.natAbs_ediv_of_dvd, Int.natAbs_mul, Int.natAbs_sign_of_ne_zero hb]
    · simp only [Nat.one_mul]; exact Nat.div_le_self _ _
    · exact Int.dvd_mul_of_dvd_right (Int.gcd_dvd_right ..)
  · rw [Rat.den_divInt, if_neg hb]
    exact Nat.div_le_self _ _
theorem ok_dv {n : Nat} {a b : Int} (hb : b ≠ 0) (h1 : Bd n a) (h2 : Bd n b) : Ok n (dv a b) := ⟨Nat.lt_of_le_of_lt (dv_natAbs hb).1 h1, Nat.lt_of_le_of_lt (dv_natAbs hb).2 h2⟩
theorem Ok.bd {n : Nat} {q : Rat} (h : Ok n q) : Bd n q.num ∧ Bd n (q.den : Int) := ⟨h.1, by unfold Bd; simpa using h.2⟩
theorem den_ne (q : Rat) : ((q.den : Nat) : Int) ≠ 0 := by have := q.den_pos; omega
theorem den_pos' (q : Rat) : (0 : Int) < ((q.den : Nat) : Int) := by have := q.den_pos; omega
theorem Ok.neg {n : Nat} {q : Rat} (h : Ok n q) : Ok n (-q) := by
  unfold Ok at *
  rw [Rat.neg_num, Rat.neg_den, Int.natAbs_neg]
  exact h
theorem add_dv (p q : Rat) : p + q = dv (p.num * q.den + q.num * p.den) (p.den * q.den) := by
  conv => lhs; rw [← dv_self p, ← dv_self q]
  exact Rat.divInt_add_divInt _ _ (den_ne p) (den_ne q)
theorem mul_dv (p q : Rat) : p * q = dv (p.num * q.num) (p.den * q.den) := by
  conv => lhs; rw [← dv_self p, ← dv_self q]
  exact Rat.divInt_mul_divInt _ _
theorem Ok.add {m n : Nat} {p q : Rat} (h : Ok m p) (h' : Ok n q) : Ok (m + n + 1) (p + q) := by
  rw [add_dv]
  exact ok_dv (Int.mul_ne_zero (den_ne p) (den_ne q)) ((h.bd.1.mul h'.bd.2).add' ((h'.bd.1.mul h.bd.2).mono (by omega))) ((h.bd.2.mul h'.bd.2).mono (by omega))
theorem Ok.mul {m n : Nat} {p q : Rat} (h : Ok m p) (h' : Ok n q) : Ok (m + n) (p * q) := by
  rw [mul_dv]
  exact ok_dv (Int.mul_ne_zero (den_ne p) (den_ne q)) (h.bd.1.mul h'.bd.1) (h.bd.2.mul h'.bd.2)
theorem ok_int {n : Nat} {i : Int} (h : Bd n i) (h0 : 0 < n) : Ok n (i : Rat) := by
  unfold Ok
  rw [Rat.num_intCast, Rat.den_intCast]
  exact ⟨h, by have : 2 ^ 1 ≤ 2 ^ n := Nat.pow_le_pow_right (by decide) h0; omega⟩
/-- num, den by the gcd -/
theorem dv_num {a b : Int} (hb : 0 < b) : (dv a b).num = a / (Nat.gcd a.natAbs b.natAbs : Nat) := by
  rw [Rat.num_divInt, Int.sign_eq_one_of_pos hb, Int.one_mul]
  rw [show b.gcd a = Nat.gcd a.natAbs b.natAbs from by rw [Nat.gcd_comm]; rfl]
theorem dv_den {a b : Int} (hb : 0 < b) : (((dv a b).den : Nat) : Int) = b / (Nat.gcd a.natAbs b.natAbs : Nat) := by
  rw [Rat.den_divInt, if_neg (by omega)]
  rw [show b.gcd a = Nat.gcd a.natAbs b.natAbs from by rw [Nat.gcd_comm]; rfl]
  rw [Int.natCast_ediv]
  congr 1
  omega
theorem dv_neg_neg {a b : Int} : dv (-a) (-b) = dv a b := by
  by_cases h : b = 0
  · subst h; simp [dv, Rat.divInt]
  · rw [Rat.divInt_eq_divInt_iff (by omega) h]
    grind
end DL

-- part DLs
namespace DL
open PySem PySem.Spec PyProof.Rows L2
theorem atI_0 {α : Type} {x : α} {r : List α} : atI (x :: r) 0 = some x := by
  have h : ixN (x :: r).length 0 = some 0 := by
    unfold ixN
    rw [if_pos (by omega), if_pos (by simp only [List.length_cons]; omega)]
    rfl
  unfold atI
  rw [h]
  rfl
theorem eqv_int {i j : Int} : PyData.eqv (.int i) (.int j) = decide (i = j) := by rw [PyData.eqv]; rfl
theorem shaped_int {i : Int} : SeqAt.shaped (.int i) = true := rfl
theorem atI_1 {α : Type} {x y : α} {r : List α} : atI (x :: y :: r) 1 = some y := by
  have h : ixN (x :: y :: r).length 1 = some 1 := by
    unfold ixN
    rw [if_pos (by omega), if_pos (by simp only [List.length_cons]; omega)]
    rfl
  unfold atI
  rw [h]
  rfl
theorem sL1 : (1 : Nat) ≤ sizeLine := by decide
theorem sL2 : (2 : Nat) ≤ sizeLine := by decide
theorem sL3 : (3 : Nat) ≤ sizeLine := by decide
theorem sL4 : (4 : Nat) ≤ sizeLine := by decide
local macro_rules | `(tactic| walk_at "dl") => `(tactic| simp only [tsSeq, tsAsg, tsIf, tsNext, tsRet, tsRetN, tsRetOwn, tsDrop, tsNever, tsPar, tsAug, toD, frz, tdB, tdCall, tvVar, tdVar, tvC, tv2, tvTup, tdLst, tvIf, tvAnd, tvOr, tvNot, tbOf, tbAnd, tbOr, tbNot, tgName, tgNil, tgCons, tgTup, arCons, arNil, dI, dAdd, dSub, dMul, dDiv, dDivA, dMod, dNeg, dCmp, dLt, dLe, dGt, dGe, dEq, dNe, dIsN, dNotN, dIx, dGcd, dAbs, dMax2, dMin2, dInt1, allD, noOwn, startD, fr,
  List.map_cons, List.map_nil, List.length_cons, List.length_nil, Nat.reduceAdd, Nat.reduceSub, Nat.zero_add, List.replicate, List.cons_append, List.nil_append, List.getElem?_cons_zero, List.getElem?_cons_succ, List.set_cons_zero, List.set_cons_succ, Option.some.injEq, S.d.injEq, S.v.injEq, PyData.int.injEq, PyData.bool.injEq, PyData.tuple.injEq, PyData.list.injEq, List.cons.injEq, exists_eq_left', exists_eq_left, exists_eq_right, true_and, and_true, Option.map_some, atI_0, atI_1, sL1, sL2, sL3, sL4, Option.map, eqv_int, shaped_int, dv_self, and_assoc, exists_and_left, decide_eq_true_eq])
/-! ### the program's ratios -/
def Pr (a b : Int) : Prop := 0 < b ∧ Bd 4000 a ∧ Bd 4000 b
def sp_lowest : SpD := fun ss Q _ => match ss with
  | [.d (.int a), .d (.int b)] => b ≠ 0 ∧ Bd 9000 b ∧ Q (.d (fr (dv a b)))
  | _ => False
def sp_pair (f : Int → Int → Int → Int → Prop) (g : Int → Int → Int → Int → D) : SpD := fun ss Q _ => match ss with
  | [.d (.tuple [.int a, .int b]), .d (.tuple [.int c, .int d])] => Pr a b ∧ Pr c d ∧ f a b c d ∧ Q (.d (g a b c d))
  | _ => False
def sp_plus : SpD := sp_pair (fun _ _ _ _ => True) fun a b c d => fr (dv a b + dv c d)
def sp_minus : SpD := sp_pair (fun _ _ _ _ => True) fun a b c d => fr (dv a b - dv c d)
def sp_times : SpD := sp_pair (fun _ _ _ _ => True) fun a b c d => fr (dv a b * dv c d)
def sp_over : SpD := sp_pair (fun _ _ c _ => c ≠ 0) fun a b c d => fr (dv a b / dv c d)
def sp_is_less : SpD := sp_pair (fun _ _ _ _ => True) fun a b c d => .bool (decide (dv a b < dv c d))
def sp_lesser : SpD := sp_pair (fun _ _ _ _ => True) fun a b c d => if dv a b < dv c d then .tuple [.int a, .int b] else .tuple [.int c, .int d]
def sp_total : SpD := fun ss Q _ => ∃ (x : D) (qs : List Rat), ss = [.d x] ∧ seqD x = some (qs.map fr) ∧ (∃ a, (∀ q ∈ qs, Ok a q) ∧ 1 + (a + 1) * qs.length ≤ 4000) ∧ Q (.d (fr qs.sum))
theorem dvlt {a b c d : Int} (hb : 0 < b) (hd : 0 < d) : dv a b < dv c d ↔ a * d < c * b := by
  have e1 : dv a b = (a : Rat) / (b : Rat) := Rat.divInt_eq_div a b
  have e2 : dv c d = (c : Rat) / (d : Rat) := Rat.divInt_eq_div c d
  have hb' : (0 : Rat) < (b : Rat) := by exact_mod_cast hb
  have hd' : (0 : Rat) < (d : Rat) := by exact_mod_cast hd
  rw [e1, e2, Rat.div_lt_iff hb']
  rw [show (c : Rat) / (d : Rat) * (b : Rat) = (c : Rat) * (b : Rat) / (d : Rat) by grind, Rat.lt_div_iff hd']
  exact_mod_cast Iff.rfl
theorem qv_add (a c : Int) {b d : Int} (hb : b ≠ 0) (hd : d ≠ 0) : dv a b + dv c d = dv (a * d + c * b) (b * d) := Rat.divInt_add_divInt a c hb hd
theorem dv_neg1 (a b : Int) : dv (-a) b = -dv a b := (Rat.neg_divInt a b).symm
theorem qv_mul (a c b d : Int) : dv (a * c) (b * d) = dv a b * dv c d := (Rat.divInt_mul_divInt a c).symm
theorem gcd_pos' {a b : Int} (hb : b ≠ 0) : 0 < Nat.gcd a.natAbs b.natAbs := Nat.gcd_pos_of_pos_right _ (by omega)
theorem gcd_le' {a b : Int} (hb : b ≠ 0) : Nat.gcd a.natAbs b.natAbs ≤ b.natAbs := Nat.gcd_le_right _ (by omega)
theorem gcd_l {a b : Int} : ((Nat.gcd a.natAbs b.natAbs : Nat) : Int) ∣ a := Int.gcd_dvd_left ..
theorem gcd_r {a b : Int} : ((Nat.gcd a.natAbs b.natAbs : Nat) : Int) ∣ b := Int.gcd_dvd_right ..
theorem fdiv_neg' {a g : Int} (h : g ∣ a) : a.fdiv (-g) = (-a) / g := by
  obtain ⟨k, rfl⟩ := h
  by_cases hg : g = 0
  · subst hg; simp
  · rw [show g * k = (-g) * (-k) by grind, Int.mul_fdiv_cancel_left _ (by omega), show -((-g) * (-k)) = g * (-k) by grind, Int.mul_ediv_cancel_left _ hg]
theorem fdiv_pos' {a g : Int} (h : g ∣ a) : a.fdiv g = a / g := by
  obtain ⟨k, rfl⟩ := h
  by_cases hg : g = 0
  · subst hg; simp
  · rw [Int.mul_fdiv_cancel_left _ hg, Int.mul_ediv_cancel_left _ hg]
theorem dv_num_neg {a b : Int} (hb : b < 0) : (-a) / ((Nat.gcd a.natAbs b.natAbs : Nat) : Int) = (dv a b).num ∧ (-b) / ((Nat.gcd a.natAbs b.natAbs : Nat) : Int) = ((dv a b).den : Nat) := by
  have h1 := dv_num (a := -a) (b := -b) (by omega)
  have h2 := dv_den (a := -a) (b := -b) (by omega)
  rw [dv_neg_neg, Int.natAbs_neg, Int.natAbs_neg] at h1 h2
  exact ⟨h1.symm, h2.symm⟩
theorem gcd_bd {a b : Int} {n : Nat} (hb : b ≠ 0) (h : Bd n b) : Bd n ((Nat.gcd a.natAbs b.natAbs : Nat) : Int) := by
  unfold Bd
  rw [Int.natAbs_natCast]
  exact Nat.lt_of_le_of_lt (gcd_le' hb) h
def r_lowest (Ed : XD → Prop) : TSD := tsSeq (tsAsg (toD (frz (tdB dGcd (arCons (toD (tvVar 0)) (arCons (toD (tvVar 1)) (arNil)))))) (tgName 2)) (tsSeq (tsIf (tbOf (tv2 dLt (tvVar 1) (tvC (.int 0)))) (tsAsg (toD (dNeg (tvVar 2))) (tgName 2)) (tsNext)) (tsRet (toD (tvTup (arCons (toD (tv2 dDivA (tvVar 0) (tvVar 2))) (arCons (toD (tv2 dDivA (tvVar 1) (tvVar 2))) (arNil)))))))
theorem pu_lowest {ss : List S} {Qd : S → Prop} {Ed : XD → Prop} (h : sp_lowest ss Qd Ed) : r_lowest Ed { nx := fun _ => Qd (.d .none), rt := Qd } (startD ["top", "bottom", "shared"] ss) := by
  unfold sp_lowest at h
  split at h
  · rename_i a b
    obtain ⟨h1, h2, h3⟩ := h
    have g0 := gcd_pos' (a := a) h1
    have g1 := gcd_bd (a := a) h1 h2
    have g2 := g1.log (by decide)
    unfold r_lowest
    walk_at "dl"
    split
    · rename_i hb
      rw [fdiv_neg' gcd_l, fdiv_neg' gcd_r, (dv_num_neg hb).1, (dv_num_neg hb).2]
      exact ⟨⟨by omega, by rw [Int.natAbs_neg]; exact g2⟩, ⟨by omega, by rw [Int.natAbs_neg]; exact g2⟩, h3⟩
    · rename_i hb
      have hb : 0 < b := by omega
      rw [fdiv_pos' gcd_l, fdiv_pos' gcd_r, ← dv_num hb, ← dv_den hb]
      exact ⟨⟨by omega, g2⟩, ⟨by omega, g2⟩, h3⟩
  · exact h.elim
theorem Pr.m {a b c d : Int} (h1 : Pr a b) (h2 : Pr c d) : IntMulOk a d ∧ IntMulOk c b ∧ IntMulOk b d ∧ IntMulOk a c ∧ IntMulOk b c ∧ b * d ≠ 0 ∧ Bd 9000 (b * d) ∧ Bd 9000 (b * c) :=
  ⟨(h1.2.1.cmul h2.2.2 (by decide)).ok, (h2.2.1.cmul h1.2.2 (by decide)).ok, (h1.2.2.cmul h2.2.2 (by decide)).ok, (h1.2.1.cmul h2.2.1 (by decide)).ok, (h1.2.2.cmul h2.2.1 (by decide)).ok, Int.mul_ne_zero (by have := h1.1; omega) (by have := h2.1; omega), (h1.2.2.mul h2.2.2).mono (by decide), (h1.2.2.mul h2.2.1).mono (by decide)⟩
def r_plus (Ed : XD → Prop) : TSD := tsSeq (tsIf (tbOf (tv2 dEq (tv2 dIx (tvVar 0) (tvC (.int 1))) (tv2 dIx (tvVar 1) (tvC (.int 1))))) (tsRet (tdCall 2 sp_lowest Ed (arCons (toD (tv2 dAdd (tv2 dIx (tvVar 0) (tvC (.int 0))) (tv2 dIx (tvVar 1) (tvC (.int 0))))) (arCons (toD (tv2 dIx (tvVar 0) (tvC (.int 1)))) (arNil))))) (tsNext)) (tsRet (tdCall 2 sp_lowest Ed (arCons (toD (tv2 dAdd (tv2 dMul (tv2 dIx (tvVar 0) (tvC (.int 0))) (tv2 dIx (tvVar 1) (tvC (.int 1)))) (tv2 dMul (tv2 dIx (tvVar 1) (tvC (.int 0))) (tv2 dIx (tvVar 0) (tvC (.int 1)))))) (arCons (toD (tv2 dMul (tv2 dIx (tvVar 0) (tvC (.int 1))) (tv2 dIx (tvVar 1) (tvC (.int 1))))) (arNil)))))
theorem pu_plus {ss : List S} {Qd : S → Prop} {Ed : XD → Prop} (h : sp_plus ss Qd Ed) : r_plus Ed { nx := fun _ => Qd (.d .none), rt := Qd } (startD ["one", "other"] ss) := by
  unfold sp_plus sp_pair at h
  split at h
  · rename_i a b c d
    obtain ⟨h1, h2, -, h3⟩ := h
    have hb := h1.1
    have hd := h2.1
    obtain ⟨m1, m2, m3, m4, m5, m6, m7, m8⟩ := h1.m h2
    have e := qv_add a c (b := b) (d := d) (by omega) (by omega)
    simp only [fr] at h3
    unfold r_plus sp_lowest
    walk_at "dl"
    split
    · rename_i hbd
      subst hbd
      have e2 : dv (a + c) b = dv a b + dv c b := by
        rw [e, Rat.divInt_eq_divInt_iff (by omega) m6]
        grind
      rw [e2]
      exact ⟨by omega, h1.2.2.mono (by decide), h3⟩
    · rw [← e]
      exact ⟨m1, m2, m3, m6, m7, h3⟩
  · exact h.elim
theorem Pr.neg {a b : Int} (h : Pr a b) : Pr (-a) b := ⟨h.1, h.2.1.neg, h.2.2⟩
def r_minus (Ed : XD → Prop) : TSD := tsRet (tdCall 2 sp_plus Ed (arCons (toD (tvVar 0)) (arCons (toD (tvTup (arCons (toD (dNeg (tv2 dIx (tvVar 1) (tvC (.int 0))))) (arCons (toD (tv2 dIx (tvVar 1) (tvC (.int 1)))) (arNil))))) (arNil))))
theorem pu_minus {ss : List S} {Qd : S → Prop} {Ed : XD → Prop} (h : sp_minus ss Qd Ed) : r_minus Ed { nx := fun _ => Qd (.d .none), rt := Qd } (startD ["one", "other"] ss) := by
  unfold sp_minus sp_pair at h
  split at h
  · rename_i a b c d
    obtain ⟨h1, h2, -, h3⟩ := h
    simp only [fr] at h3
    unfold r_minus sp_plus sp_pair
    walk_at "dl"
    refine ⟨h1, h2.neg, ?_⟩
    rw [dv_neg1, ← Rat.sub_eq_add_neg]
    exact h3
  · exact h.elim
def r_times (Ed : XD → Prop) : TSD := tsRet (tdCall 2 sp_lowest Ed (arCons (toD (tv2 dMul (tv2 dIx (tvVar 0) (tvC (.int 0))) (tv2 dIx (tvVar 1) (tvC (.int 0))))) (arCons (toD (tv2 dMul (tv2 dIx (tvVar 0) (tvC (.int 1))) (tv2 dIx (tvVar 1) (tvC (.int 1))))) (arNil))))
theorem pu_times {ss : List S} {Qd : S → Prop} {Ed : XD → Prop} (h : sp_times ss Qd Ed) : r_times Ed { nx := fun _ => Qd (.d .none), rt := Qd } (startD ["one", "other"] ss) := by
  unfold sp_times sp_pair at h
  split at h
  · rename_i a b c d
    obtain ⟨h1, h2, -, h3⟩ := h
    obtain ⟨m1, m2, m3, m4, m5, m6, m7, m8⟩ := h1.m h2
    simp only [fr] at h3
    unfold r_times sp_lowest
    walk_at "dl"
    rw [qv_mul]
    exact ⟨m4, m3, m6, m7, h3⟩
  · exact h.elim
def r_over (Ed : XD → Prop) : TSD := tsSeq (tsIf (tbOf (tv2 dEq (tv2 dIx (tvVar 1) (tvC (.int 0))) (tvC (.int 0)))) (tsNever) (tsNext)) (tsRet (tdCall 2 sp_lowest Ed (arCons (toD (tv2 dMul (tv2 dIx (tvVar 0) (tvC (.int 0))) (tv2 dIx (tvVar 1) (tvC (.int 1))))) (arCons (toD (tv2 dMul (tv2 dIx (tvVar 0) (tvC (.int 1))) (tv2 dIx (tvVar 1) (tvC (.int 0))))) (arNil)))))
theorem pu_over {ss : List S} {Qd : S → Prop} {Ed : XD → Prop} (h : sp_over ss Qd Ed) : r_over Ed { nx := fun _ => Qd (.d .none), rt := Qd } (startD ["one", "other"] ss) := by
  unfold sp_over sp_pair at h
  split at h
  · rename_i a b c d
    obtain ⟨h1, h2, h0, h3⟩ := h
    obtain ⟨m1, m2, m3, m4, m5, m6, m7, m8⟩ := h1.m h2
    have hb := h1.1
    have hd := h2.1
    simp only [fr] at h3
    unfold r_over sp_lowest
    walk_at "dl"
    rw [if_neg h0]
    have e : dv (a * d) (b * c) = dv a b / dv c d := by
      rw [show dv a b = (a : Rat) / (b : Rat) from Rat.divInt_eq_div a b, show dv c d = (c : Rat) / (d : Rat) from Rat.divInt_eq_div c d, show dv (a * d) (b * c) = ((a * d : Int) : Rat) / ((b * c : Int) : Rat) from Rat.divInt_eq_div _ _]
      rw [Rat.intCast_mul, Rat.intCast_mul]
      have hb' : (b : Rat) ≠ 0 := by exact_mod_cast (show b ≠ 0 by omega)
      have hc' : (c : Rat) ≠ 0 := by exact_mod_cast h0
      have hd' : (d : Rat) ≠ 0 := by exact_mod_cast (show d ≠ 0 by omega)
      grind
    rw [e]
    exact ⟨m1, m5, Int.mul_ne_zero (by omega) h0, m8, h3⟩
  · exact h.elim
def r_is_less (Ed : XD → Prop) : TSD := tsRet (toD (tv2 dLt (tv2 dMul (tv2 dIx (tvVar 0) (tvC (.int 0))) (tv2 dIx (tvVar 1) (tvC (.int 1)))) (tv2 dMul (tv2 dIx (tvVar 1) (tvC (.int 0))) (tv2 dIx (tvVar 0) (tvC (.int 1))))))
theorem pu_is_less {ss : List S} {Qd : S → Prop} {Ed : XD → Prop} (h : sp_is_less ss Qd Ed) : r_is_less Ed { nx := fun _ => Qd (.d .none), rt := Qd } (startD ["one", "other"] ss) := by
  unfold sp_is_less sp_pair at h
  split at h
  · rename_i a b c d
    obtain ⟨h1, h2, -, h3⟩ := h
    obtain ⟨m1, m2, m3, m4, m5, m6, m7, m8⟩ := h1.m h2
    unfold r_is_less
    walk_at "dl"
    simp only [dvlt h1.1 h2.1] at h3
    exact ⟨m1, m2, h3⟩
  · exact h.elim
def r_lesser (Ed : XD → Prop) : TSD := tsRet (toD (tvIf (tbOf (frz (tdCall 2 sp_is_less Ed (arCons (toD (tvVar 0)) (arCons (toD (tvVar 1)) (arNil)))))) (tvVar 0) (tvVar 1)))
theorem pu_lesser {ss : List S} {Qd : S → Prop} {Ed : XD → Prop} (h : sp_lesser ss Qd Ed) : r_lesser Ed { nx := fun _ => Qd (.d .none), rt := Qd } (startD ["one", "other"] ss) := by
  unfold sp_lesser sp_pair at h
  split at h
  · rename_i a b c d
    obtain ⟨h1, h2, -, h3⟩ := h
    unfold r_lesser sp_is_less sp_pair
    walk_at "dl"
    refine ⟨h1, h2, ?_⟩
    by_cases hl : dv a b < dv c d
    · simp only [hl, if_true] at h3 ⊢
      exact h3
    · simp only [hl, if_false] at h3 ⊢
      exact h3
  · exact h.elim
abbrev c_ZERO : D := .tuple [.int 0, .int 1]
theorem forWP_step {g : TGD} {tb : TSD} {E : EndsD} {x : D} {r : List D} {δ : Sl} : forWP g tb E (x :: r) δ = (g (.d x) δ fun δ' => tb { E with nx := forWP g tb E r, ct := forWP g tb E r, bk := E.nx } δ') := rfl
theorem forWP_end {g : TGD} {tb : TSD} {E : EndsD} {δ : Sl} : forWP g tb E [] δ = E.nx δ := rfl
theorem seq_items {x : D} {xs : List D} (h : seqD x = some xs) : itemsD x = some xs := by
  cases x <;> first | exact h | cases h
theorem fr_pr {q : Rat} {n : Nat} (h : Ok n q) (hn : n ≤ 4000) : Pr q.num q.den := ⟨den_pos' q, h.bd.1.mono hn, h.bd.2.mono hn⟩
theorem pr_one {i : Int} {n : Nat} (h : Bd n i) (hn : n ≤ 4000) : Pr i 1 := ⟨by decide, h.mono hn, show 1 < 2 ^ 4000 from Nat.one_lt_two_pow (by decide)⟩
theorem qv_one (i : Int) : dv i 1 = (i : Rat) := by
  have e := Rat.divInt_eq_div i 1
  rw [show dv i 1 = Rat.divInt i 1 from rfl, e]
  have h : ((1 : Int) : Rat) = 1 := rfl
  rw [h]
  grind
def rb_total_0 (Ed : XD → Prop) : TSD := tsAsg (toD (frz (tdCall 2 sp_plus Ed (arCons (toD (tvVar 1)) (arCons (toD (tvVar 2)) (arNil)))))) (tgName 1)
def r_total (Ed : XD → Prop) : TSD := tsSeq (tsAsg (toD (tvC c_ZERO)) (tgName 1)) (tsSeq (tsFor (tiSeq (tvVar 0)) (tgName 2) (rb_total_0 Ed)) (tsRet (toD (tvVar 1))))
theorem total_loop {a : Nat} {Ed : XD → Prop} {E : EndsD} {x0 : Option S} : ∀ (qs : List Rat) (k : Nat) (acc : Rat) (δ2 : Option S), Ok k acc → (∀ q ∈ qs, Ok a q) → k + (a + 1) * qs.length ≤ 4000 → (∀ δ2, E.nx [x0, some (.d (fr (acc + qs.sum))), δ2]) →
    forWP (tgName 2) (rb_total_0 Ed) E (qs.map fr) [x0, some (.d (fr acc)), δ2]
  | [], k, acc, δ2, _, _, _, q => by
    rw [List.map_nil, forWP_end]
    have e : acc + ([] : List Rat).sum = acc := by rw [List.sum_nil, Rat.add_zero]
    rw [e] at q
    exact q δ2
  | p :: qs, k, acc, δ2, h1, h2, h3, q => by
    rw [List.map_cons, forWP_step]
    generalize eT : forWP (tgName 2) (rb_total_0 Ed) E (qs.map fr) = T
    unfold rb_total_0 sp_plus sp_pair
    walk_at "dl"
    subst eT
    have hp := h2 p (List.mem_cons_self ..)
    rw [List.length_cons, Nat.mul_succ] at h3
    refine ⟨fr_pr h1 (by omega), fr_pr hp (by omega), ?_⟩
    refine total_loop qs (k + (a + 1)) (acc + p) _ ((h1.add hp).mono (by omega)) (fun z hz => h2 z (List.mem_cons_of_mem _ hz)) (by omega) fun δ2 => ?_
    have e : acc + p + qs.sum = acc + (p :: qs).sum := by rw [List.sum_cons, Rat.add_assoc]
    rw [e]
    exact q δ2
theorem pu_total {ss : List S} {Qd : S → Prop} {Ed : XD → Prop} (h : sp_total ss Qd Ed) : r_total Ed { nx := fun _ => Qd (.d .none), rt := Qd } (startD ["ratios", "found", "one"] ss) := by
  obtain ⟨x, qs, rfl, e, ⟨a, hq, hl⟩, q⟩ := h
  unfold r_total tsFor tiSeq
  walk_at "dl"
  refine ⟨qs.map fr, seq_items e, by rw [List.length_map]; have := Nat.le_mul_of_pos_left qs.length (show 0 < a + 1 by omega); omega, ?_⟩
  refine total_loop qs 1 0 _ ⟨by decide, by decide⟩ hq (by omega) fun δ2 => ?_
  walk_at "dl"
  rw [Rat.zero_add]
  exact q
/-! ### the law's own fractions -/
def sp__law_frac : SpD := fun ss Q _ => match ss with
  | [.d (.int a), .d (.int b)] => b ≠ 0 ∧ Bd 8999 b ∧ Q (.d (fr (dv a b)))
  | _ => False
def sp__law_add : SpD := sp_plus
def sp__law_sub : SpD := sp_minus
def sp__law_mul : SpD := sp_times
def sp__law_below : SpD := sp_is_less
def sp__law_sum : SpD := sp_total
def rb__law_frac_0 (Ed : XD → Prop) : TSD := tsPar 2 3 (toD (tvVar 3)) (toD (tv2 dMod (frz (tdB dInt1 (arCons (toD (tvVar 2)) (arNil)))) (tvVar 3)))
def rw__law_frac_1 (Ed : XD → Prop) : TB := tbOf (tv2 dGt (tvVar 3) (tvC (.int 0)))
def r__law_frac (Ed : XD → Prop) : TSD := tsSeq (tsPar 2 3 (toD (frz (tdB dAbs (arCons (toD (tvVar 0)) (arNil))))) (toD (frz (tdB dAbs (arCons (toD (tvVar 1)) (arNil)))))) (tsSeq (tsWhile (rw__law_frac_1 Ed) (rb__law_frac_0 Ed)) (tsSeq (tsAsg (toD (frz (tdB dMax2 (arCons (toD (tvVar 2)) (arCons (toD (tvC (.int 1))) (arNil)))))) (tgName 2)) (tsRet (toD (tvIf (tbOf (tv2 dGt (tvVar 1) (tvC (.int 0)))) (tvTup (arCons (toD (tv2 dDiv (tvVar 0) (tvVar 2))) (arCons (toD (tv2 dDiv (tvVar 1) (tvVar 2))) (arNil)))) (tvTup (arCons (toD (tv2 dDiv (dNeg (tvVar 0)) (tvVar 2))) (arCons (toD (tv2 dDiv (dNeg (tvVar 1)) (tvVar 2))) (arNil)))))))))
theorem emod_gcd (a b : Nat) : Nat.gcd b (a % b) = Nat.gcd a b := by rw [Nat.gcd_comm, ← Nat.gcd_rec, Nat.gcd_comm]
theorem pu__law_frac {ss : List S} {Qd : S → Prop} {Ed : XD → Prop} (h : sp__law_frac ss Qd Ed) : r__law_frac Ed { nx := fun _ => Qd (.d .none), rt := Qd } (startD ["top", "bottom", "one", "other"] ss) := by
  unfold sp__law_frac at h
  split at h
  · rename_i a b
    obtain ⟨h1, h2, h3⟩ := h
    have g0 := gcd_pos' (a := a) h1
    have g1 := gcd_bd (a := a) h1 h2
    have g2 := g1.log (by decide)
    simp only [fr] at h3
    unfold r__law_frac tsWhile
    walk_at "dl"
    have ea : ∀ i : Int, (if i < 0 then -i else i) = (i.natAbs : Int) := fun i => by split <;> omega
    rw [ea, ea]
    refine ⟨fun m δ => ∃ x : Nat, δ = [some (.d (.int a)), some (.d (.int b)), some (.d (.int (x : Nat))), some (.d (.int (m : Nat)))] ∧ Nat.gcd x m = Nat.gcd a.natAbs b.natAbs, ⟨b.natAbs, a.natAbs, rfl, rfl⟩, ?_⟩
    rintro m δ ⟨x, rfl, hg⟩
    unfold rw__law_frac_1 rb__law_frac_0
    walk_at "dl"
    split
    · rename_i hm
      have hm : 0 < m := by omega
      refine ⟨by omega, x % m, Nat.mod_lt _ hm, m, rfl, Int.natCast_emod x m, ?_⟩
      · rw [emod_gcd]; exact hg
    · rename_i hm
      have hm : m = 0 := by omega
      subst hm
      rw [Nat.gcd_zero_right] at hg
      subst hg
      have e1 : (if (1 : Int) > ((Nat.gcd a.natAbs b.natAbs : Nat) : Int) then (1 : Int) else ((Nat.gcd a.natAbs b.natAbs : Nat) : Int)) = ((Nat.gcd a.natAbs b.natAbs : Nat) : Int) := if_neg (by omega)
      rw [e1]
      have hc : ∀ i : Int, CDivW i ((Nat.gcd a.natAbs b.natAbs : Nat) : Int) := fun i => ⟨by omega, Nat.lt_trans g2 (by decide)⟩
      split
      · rename_i hb
        rw [← dv_num hb, ← dv_den hb]
        exact ⟨hc _, hc _, h3⟩
      · rename_i hb
        have hb : b < 0 := by omega
        rw [(dv_num_neg hb).1, (dv_num_neg hb).2]
        exact ⟨hc _, hc _, h3⟩
  · exact h.elim
def r__law_add (Ed : XD → Prop) : TSD := tsRet (tdCall 2 sp__law_frac Ed (arCons (toD (tv2 dAdd (tv2 dMul (tv2 dIx (tvVar 0) (tvC (.int 0))) (tv2 dIx (tvVar 1) (tvC (.int 1)))) (tv2 dMul (tv2 dIx (tvVar 1) (tvC (.int 0))) (tv2 dIx (tvVar 0) (tvC (.int 1)))))) (arCons (toD (tv2 dMul (tv2 dIx (tvVar 0) (tvC (.int 1))) (tv2 dIx (tvVar 1) (tvC (.int 1))))) (arNil))))
theorem pu__law_add {ss : List S} {Qd : S → Prop} {Ed : XD → Prop} (h : sp__law_add ss Qd Ed) : r__law_add Ed { nx := fun _ => Qd (.d .none), rt := Qd } (startD ["one", "other"] ss) := by
  unfold sp__law_add sp_plus sp_pair at h
  split at h
  · rename_i a b c d
    obtain ⟨h1, h2, -, h3⟩ := h
    have hb := h1.1
    have hd := h2.1
    obtain ⟨m1, m2, m3, m4, m5, m6, m7, m8⟩ := h1.m h2
    simp only [fr] at h3
    unfold r__law_add sp__law_frac
    walk_at "dl"
    rw [← qv_add a c (by omega) (by omega)]
    exact ⟨m1, m2, m3, m6, (h1.2.2.mul h2.2.2).mono (by decide), h3⟩
  · exact h.elim
def r__law_sub (Ed : XD → Prop) : TSD := tsRet (tdCall 2 sp__law_frac Ed (arCons (toD (tv2 dSub (tv2 dMul (tv2 dIx (tvVar 0) (tvC (.int 0))) (tv2 dIx (tvVar 1) (tvC (.int 1)))) (tv2 dMul (tv2 dIx (tvVar 1) (tvC (.int 0))) (tv2 dIx (tvVar 0) (tvC (.int 1)))))) (arCons (toD (tv2 dMul (tv2 dIx (tvVar 0) (tvC (.int 1))) (tv2 dIx (tvVar 1) (tvC (.int 1))))) (arNil))))
theorem pu__law_sub {ss : List S} {Qd : S → Prop} {Ed : XD → Prop} (h : sp__law_sub ss Qd Ed) : r__law_sub Ed { nx := fun _ => Qd (.d .none), rt := Qd } (startD ["one", "other"] ss) := by
  unfold sp__law_sub sp_minus sp_pair at h
  split at h
  · rename_i a b c d
    obtain ⟨h1, h2, -, h3⟩ := h
    have hb := h1.1
    have hd := h2.1
    obtain ⟨m1, m2, m3, m4, m5, m6, m7, m8⟩ := h1.m h2
    simp only [fr] at h3
    unfold r__law_sub sp__law_frac
    walk_at "dl"
    have e : dv (a * d - c * b) (b * d) = dv a b - dv c d := by
      rw [Rat.sub_eq_add_neg, ← dv_neg1, qv_add a (-c) (by omega) (by omega), Int.neg_mul, Int.sub_eq_add_neg]
    rw [e]
    exact ⟨m1, m2, m3, m6, (h1.2.2.mul h2.2.2).mono (by decide), h3⟩
  · exact h.elim
def r__law_mul (Ed : XD → Prop) : TSD := tsRet (tdCall 2 sp__law_frac Ed (arCons (toD (tv2 dMul (tv2 dIx (tvVar 0) (tvC (.int 0))) (tv2 dIx (tvVar 1) (tvC (.int 0))))) (arCons (toD (tv2 dMul (tv2 dIx (tvVar 0) (tvC (.int 1))) (tv2 dIx (tvVar 1) (tvC (.int 1))))) (arNil))))
theorem pu__law_mul {ss : List S} {Qd : S → Prop} {Ed : XD → Prop} (h : sp__law_mul ss Qd Ed) : r__law_mul Ed { nx := fun _ => Qd (.d .none), rt := Qd } (startD ["one", "other"] ss) := by
  unfold sp__law_mul sp_times sp_pair at h
  split at h
  · rename_i a b c d
    obtain ⟨h1, h2, -, h3⟩ := h
    obtain ⟨m1, m2, m3, m4, m5, m6, m7, m8⟩ := h1.m h2
    simp only [fr] at h3
    unfold r__law_mul sp__law_frac
    walk_at "dl"
    rw [qv_mul]
    exact ⟨m4, m3, m6, (h1.2.2.mul h2.2.2).mono (by decide), h3⟩
  · exact h.elim
def r__law_below (Ed : XD → Prop) : TSD := tsRet (toD (tv2 dLt (tv2 dMul (tv2 dIx (tvVar 0) (tvC (.int 0))) (tv2 dIx (tvVar 1) (tvC (.int 1)))) (tv2 dMul (tv2 dIx (tvVar 1) (tvC (.int 0))) (tv2 dIx (tvVar 0) (tvC (.int 1))))))
theorem pu__law_below {ss : List S} {Qd : S → Prop} {Ed : XD → Prop} (h : sp__law_below ss Qd Ed) : r__law_below Ed { nx := fun _ => Qd (.d .none), rt := Qd } (startD ["one", "other"] ss) := pu_is_less h
def rb__law_sum_0 (Ed : XD → Prop) : TSD := tsAsg (toD (frz (tdCall 2 sp__law_add Ed (arCons (toD (tvVar 1)) (arCons (toD (tvVar 2)) (arNil)))))) (tgName 1)
def r__law_sum (Ed : XD → Prop) : TSD := tsSeq (tsAsg (toD (tvTup (arCons (toD (tvC (.int 0))) (arCons (toD (tvC (.int 1))) (arNil))))) (tgName 1)) (tsSeq (tsFor (tiSeq (tvVar 0)) (tgName 2) (rb__law_sum_0 Ed)) (tsRet (toD (tvVar 1))))
theorem law_sum_loop {a : Nat} {Ed : XD → Prop} {E : EndsD} {x0 : Option S} : ∀ (qs : List Rat) (k : Nat) (acc : Rat) (δ2 : Option S), Ok k acc → (∀ q ∈ qs, Ok a q) → k + (a + 1) * qs.length ≤ 4000 → (∀ δ2, E.nx [x0, some (.d (fr (acc + qs.sum))), δ2]) →
    forWP (tgName 2) (rb__law_sum_0 Ed) E (qs.map fr) [x0, some (.d (fr acc)), δ2] := fun qs k acc δ2 h1 h2 h3 q => total_loop qs k acc δ2 h1 h2 h3 q
theorem pu__law_sum {ss : List S} {Qd : S → Prop} {Ed : XD → Prop} (h : sp__law_sum ss Qd Ed) : r__law_sum Ed { nx := fun _ => Qd (.d .none), rt := Qd } (startD ["some", "found", "one"] ss) := by
  obtain ⟨x, qs, rfl, e, ⟨a, hq, hl⟩, q⟩ := h
  unfold r__law_sum tsFor tiSeq
  walk_at "dl"
  refine ⟨qs.map fr, seq_items e, by rw [List.length_map]; have := Nat.le_mul_of_pos_left qs.length (show 0 < a + 1 by omega); omega, ?_⟩
  refine law_sum_loop qs 1 0 _ ⟨by decide, by decide⟩ hq (by omega) fun δ2 => ?_
  walk_at "dl"
  rw [Rat.zero_add]
  exact q
end DL

-- part DLt
/-! the law's draws: a dict of state that the resource owns -/
namespace DL
open PySem PySem.Spec PyProof.Rows L2
/-! ### shapes -/
/-- can be laid, no deeper than n -/
def shN (n : Nat) (x : D) : Prop := x.canLay0 = true ∧ x.depth ≤ n
theorem shN.shaped {n : Nat} {x : D} (h : shN n x) (hn : n ≤ 64) : SeqAt.shaped x = true := by
  unfold SeqAt.shaped
  rw [Bool.and_eq_true, decide_eq_true_eq]
  exact ⟨h.1, Nat.le_trans h.2 hn⟩
theorem shN.mono {m n : Nat} {x : D} (h : shN m x) (l : m ≤ n) : shN n x := ⟨h.1, Nat.le_trans h.2 l⟩
theorem shN_all {n : Nat} : ∀ {xs : List D}, (∀ x ∈ xs, shN n x) → PyData.canLayAll0 xs = true ∧ PyData.depthAll xs ≤ n
  | [], _ => ⟨rfl, Nat.zero_le _⟩
  | x :: xs, h => by
    have h1 := h x (List.mem_cons_self ..)
    have h2 := shN_all (xs := xs) fun y hy => h y (List.mem_cons_of_mem _ hy)
    refine ⟨?_, ?_⟩
    · rw [PyData.canLayAll0, Bool.and_eq_true]
      exact ⟨h1.1, h2.1⟩
    · rw [PyData.depthAll]
      exact Nat.max_le.mpr ⟨h1.2, h2.2⟩
theorem shN_list {n : Nat} {xs : List D} (h : ∀ x ∈ xs, shN n x) : shN (n + 1) (.list xs) := by
  have h2 := shN_all h
  refine ⟨?_, ?_⟩
  · rw [PyData.canLay0]; exact h2.1
  · rw [PyData.depth]; omega
theorem shN_tup {n : Nat} {xs : List D} (h : ∀ x ∈ xs, shN n x) : shN (n + 1) (.tuple xs) := by
  have h2 := shN_all h
  refine ⟨?_, ?_⟩
  · rw [PyData.canLay0]; exact h2.1
  · rw [PyData.depth]; omega
theorem shN_int {i : Int} : shN 1 (.int i) := ⟨rfl, by rw [PyData.depth]; omega⟩
theorem shN_ints {ns : List Int} : shN 2 (.list (ns.map PyData.int)) := shN_list fun x hx => by
  obtain ⟨i, _, rfl⟩ := List.mem_map.mp hx
  exact shN_int
abbrev stK (g c : Addr) (rest turn : Int) : List (Key × V) := [(.inr "great", .ref g), (.inr "cells", .ref c), (.inr "rest", .int rest), (.inr "turn", .int turn)]
/-- the resource, with at most k turns: the dict at st, its lists at g, c -/
structure StK (st g c : Addr) (cs : List Int) (k : Nat) (r : Hp) : Prop where
  gc : st ≠ g ∧ st ≠ c ∧ g ≠ c
  ex : ∃ (gs : List Int) (rest : Int) (turn : Nat), turn ≤ k ∧ r st = some (.dK (stK g c rest turn)) ∧ r g = some (.lst (gs.map V.int)) ∧ r c = some (.lst (cs.map V.int))
  len : cs.length ≤ 2 ^ 62
theorem WOk.res' {ρ : Hp → Prop} {W : Wd} {H : Hp} {a : Addr} {o u : HO} (w : WOk ρ W H) (h : W.r a = some u) (q : ρ (upd W.r a o)) : WOk ρ ⟨W.b, upd W.r a o⟩ (upd H a o) where
  bH := fun b v e => by
    have n : b ≠ a := fun z => by
      have e1 := w.dj b v e
      rw [z, h] at e1
      cases e1
    rw [upd_ne n]
    exact w.bH b v e
  rH := fun b v e => by
    by_cases n : b = a
    · subst n
      have e' : upd W.r b o b = some v := e
      rw [upd_same] at e' ⊢
      exact e'
    · have e' : upd W.r a o b = some v := e
      rw [upd_ne n] at e' ⊢
      exact w.rH b v e'
  dj := fun b v e => by
    have n : b ≠ a := fun z => by
      have e1 := w.dj b v e
      rw [z, h] at e1
      cases e1
    show upd W.r a o b = none
    rw [upd_ne n]
    exact w.dj b v e
  res := q
theorem Step.res' {ρ : Hp → Prop} {W : Wd} {H : Hp} {a : Addr} {o u : HO} (w : WOk ρ W H) (h : W.r a = some u) : Step W H ⟨W.b, upd W.r a o⟩ (upd H a o) where
  b := fun _ _ e => e
  keep := fun b v e n => by
    rw [upd_ne (fun z => by rw [z, h] at n; cases n)]
    exact e
  nb := fun _ _ _ n => n
  nr := fun b v e n => by
    show upd W.r a o b = none
    rw [upd_ne (fun z => by rw [z, h] at n; cases n)]
    exact n
  th := fun b v e => by
    by_cases n : b = a
    · exact ⟨o, by rw [n, upd_same]⟩
    · exact ⟨v, by rw [upd_ne n]; exact e⟩
section
variable {C : DC} {st g c : Addr} {cs : List Int} {kt : Nat} {i : Nat} {x : Str} {e e2 : Expr} {p pos kp : Pos} {kk : Nat} {tb : TV}
/-- a def's name that holds the state -/
theorem vis_d {x : Str} (hN : C.X.N[i]? = some x := by rfl) (hv : Vis C.X.env.scope x := by first | exact Or.inl rfl | exact Or.inr (Or.inl rfl) | exact Or.inr (Or.inr rfl)) (hdb : (x == ("__debug__" : Str)) = false := by decide) (hcd : (x == ("__classdict__" : Str)) = false := by decide) : PE C.X (.Name x p) (tVar i) := pe_var hN hv hdb hcd
theorem Sat.raw {δ : Sl} {σ : L2.St} {W : Wd} {H : Hp} {v : V} (s : Sat C δ σ W H) (e : δ[i]? = some (some (.v v))) : σ[i]? = some (some v) := by
  obtain ⟨u, e1, e2⟩ := s.sl i _ e
  cases e2
  exact e1
/-- state['rest']: some int; state['turn']: at most kt -/
def tvSt (st : Addr) (i : Nat) : TV := fun δ Q => δ[i]? = some (some (.v (.ref st))) ∧ ∀ n : Int, Q (.int n)
def tvTurn (kt : Nat) (st : Addr) (i : Nat) : TV := fun δ Q => δ[i]? = some (some (.v (.ref st))) ∧ ∀ n : Nat, n ≤ kt → Q (.int (n : Nat))
theorem dv_st {n : Nat} (hρ : C.ρ = StK st g c cs kt) (hr : Room n C.X.A) (hx : PE C.X e (tVar i)) (hs : NoSl (.Constant (.str "rest") kk kp) := by exact fun _ _ => rfl) : DV C (.Subscript e (.Constant (.str "rest") kk kp) pos) (tvSt st i) := by
  refine ⟨_, pe_dget (by have := hr.un; omega) hx pe_str hs, fun δ σ W H Q QV sat ⟨e0, q⟩ kq => ?_⟩
  have sa : StK st g c cs kt W.r := by rw [← hρ]; exact sat.ok.res
  obtain ⟨gs, rest, turn, h0, h1, h2, h3⟩ := sa.ex
  exact ⟨_, sat.raw e0, st, .int rest, rfl, DGet.k (k := .inr "rest") (sat.ok.rH _ _ h1), kq _ W H _ sat (Step.refl W H) (.int rest) (q rest)⟩
theorem dv_turn {n : Nat} (hρ : C.ρ = StK st g c cs kt) (hr : Room n C.X.A) (hx : PE C.X e (tVar i)) (hs : NoSl (.Constant (.str "turn") kk kp) := by exact fun _ _ => rfl) : DV C (.Subscript e (.Constant (.str "turn") kk kp) pos) (tvTurn kt st i) := by
  refine ⟨_, pe_dget (by have := hr.un; omega) hx pe_str hs, fun δ σ W H Q QV sat ⟨e0, q⟩ kq => ?_⟩
  have sa : StK st g c cs kt W.r := by rw [← hρ]; exact sat.ok.res
  obtain ⟨gs, rest, turn, h0, h1, h2, h3⟩ := sa.ex
  exact ⟨_, sat.raw e0, st, .int turn, rfl, DGet.k (k := .inr "turn") (sat.ok.rH _ _ h1), kq _ W H _ sat (Step.refl W H) (.int _) (q turn h0)⟩
/-- state['rest'] = .. -/
def tsStPut (st : Addr) (i : Nat) (t : TV) : TSD := fun E δ => t δ fun x => ∃ n : Int, x = .int n ∧ δ[i]? = some (some (.v (.ref st))) ∧ E.nx δ
/-- the write itself -/
theorem put_rest {W : Wd} {H : Hp} {m : Int} (hρ : C.ρ = StK st g c cs kt) (w : WOk C.ρ W H) : ∃ W' H', DPut H st (.str "rest") (.int m) H' ∧ WOk C.ρ W' H' ∧ Step W H W' H' := by
  have sa : StK st g c cs kt W.r := by rw [← hρ]; exact w.res
  obtain ⟨gs, rest, turn, k0, k1, k2, k3⟩ := sa.ex
  refine ⟨_, _, DPut.k (k := .inr "rest") (w.rH _ _ k1) (show 4 < sizeLine by decide), w.res' (o := .dK (stK g c m turn)) k1 ?_, Step.res' w k1⟩
  rw [hρ]
  exact ⟨sa.gc, ⟨gs, m, turn, k0, upd_same, by rw [upd_ne sa.gc.1.symm]; exact k2, by rw [upd_ne sa.gc.2.1.symm]; exact k3⟩, sa.len⟩
theorem put_turn {W : Wd} {H : Hp} {m : Nat} (w : WOk (StK st g c cs kt) W H) (hm : m ≤ kt + 1) : ∃ W' H', DPut H st (.str "turn") (.int (m : Nat)) H' ∧ WOk (StK st g c cs (kt + 1)) W' H' ∧ Step W H W' H' := by
  have sa := w.res
  obtain ⟨gs, rest, turn, k0, k1, k2, k3⟩ := sa.ex
  refine ⟨_, _, DPut.k (k := .inr "turn") (w.rH _ _ k1) (show 4 < sizeLine by decide), ?_, Step.res' w k1⟩
  have nr : StK st g c cs (kt + 1) (upd W.r st (.dK (stK g c rest m))) := ⟨sa.gc, ⟨gs, rest, m, hm, upd_same, by rw [upd_ne sa.gc.1.symm]; exact k2, by rw [upd_ne sa.gc.2.1.symm]; exact k3⟩, sa.len⟩
  have w0 : WOk (fun r => StK st g c cs kt r ∨ StK st g c cs (kt + 1) r) W H := ⟨w.bH, w.rH, w.dj, .inl w.res⟩
  have w1 := w0.res' (o := .dK (stK g c rest m)) k1 (.inr nr)
  exact ⟨w1.bH, w1.rH, w1.dj, nr⟩
theorem ds_stPut {n : Nat} {value : Expr} {pos' : Pos} {tv : TV} (hρ : C.ρ = StK st g c cs kt) (hr : Room n C.X.A) (hx : PE C.X e (tVar i)) (hv : DV C value tv) (hs : swapsWith value (some (.Subscript e (.Constant (.str "rest") kk kp) pos')) pos.line C.X.env = pure false := by rfl) :
    DS C (.Assign [.Subscript e (.Constant (.str "rest") kk kp) pos'] value pos) (tsStPut st i tv) := by
  obtain ⟨tw, h1, h2⟩ := hv
  refine ⟨_, ps_dput (by have := hr.un; omega) hx pe_str h1 hs, fun δ σ W H D DV sat q ok => ?_⟩
  refine h2 δ σ W H _ _ sat q fun v W1 H1 x s1 st1 r1 ⟨m, ex, e0, q1⟩ => ?_
  subst ex
  cases r1
  obtain ⟨W2, H2, hp, w2, st2⟩ := put_rest (m := m) hρ s1.ok
  exact ⟨_, s1.raw e0, st, H2, rfl, hp, ok.nx δ σ _ _ (s1.go w2 st2) (st1.trans st2).b q1⟩
/-- for .. in state['cells'] -/
def tiCells (st : Addr) (cs : List Int) (i : Nat) : TID := fun δ Q => δ[i]? = some (some (.v (.ref st))) ∧ Q (cs.map PyData.int)
theorem di_cells {n : Nat} {tg : Expr} (hρ : C.ρ = StK st g c cs kt) (hr : Room n C.X.A) (hx : PE C.X e (tVar i)) (hs : NoSl (.Constant (.str "cells") kk kp) := by exact fun _ _ => rfl) : DI C tg (.Subscript e (.Constant (.str "cells") kk kp) pos) (tiCells st cs i) := by
  refine ⟨_, pi_list (pe_dget (by have := hr.un; omega) hx pe_str hs), fun δ σ W H Q R sat ⟨e0, q⟩ kq => ?_⟩
  have sa : StK st g c cs kt W.r := by rw [← hρ]; exact sat.ok.res
  obtain ⟨gs, rest, turn, h0, h1, h2, h3⟩ := sa.ex
  have hg : DGet H st (.str "cells") (some (.ref c)) := DGet.k (k := .inr "cells") (sat.ok.rH _ _ h1)
  refine ⟨_, sat.raw e0, st, .ref c, rfl, hg, c, rfl, ⟨_, .inl (.inl (sat.ok.rH _ _ h3))⟩, ?_⟩
  refine kq _ _ W H sat (Step.refl W H) (fun W' H' w' l' => ?_) (by rw [List.length_map]; exact sa.len) q
  have sa' : StK st g c cs kt W'.r := by rw [← hρ]; exact w'.res
  obtain ⟨gs', rest', turn', h0', h1', h2', h3'⟩ := sa'.ex
  have hc := w'.rH _ _ h3'
  refine ⟨fun j y ey => ?_, ⟨_, .inl (.inl hc), by rw [List.length_map, List.length_map]; exact Nat.le_refl _⟩⟩
  rw [List.getElem?_map] at ey
  cases ej : cs[j]? with
  | none => rw [ej] at ey; cases ey
  | some m =>
    rw [ej] at ey
    cases ey
    have ev : (cs.map V.int)[j]? = some (.int m) := by rw [List.getElem?_map, ej]; rfl
    refine ⟨⟨_, _, .inl (.inl hc), ev⟩, fun u H2 yl => ?_⟩
    obtain ⟨eH, yl⟩ := yl
    have e3 := yl _ (.inl (.inl hc))
    rw [ev] at e3
    cases e3
    subst eH
    exact ⟨W', w', Step.refl W' _, .int m⟩
end
/-! ### the state is made -/
def SpBegun (K : PySem.W.Frag) : Sp := fun vs H Q _ => ∃ (a : Addr) (ns : List Int), vs = [.ref a] ∧ SqL K H a (ns.map V.int) ∧ ns.length < sizeLine ∧
  ∀ (H' : Hp) (st g c : Addr) (gs cs : List Int), (∀ b o, H b = some o → H' b = some o) → H st = none → H g = none → H c = none → st ≠ g ∧ st ≠ c ∧ g ≠ c →
    H' st = some (.dK (stK g c 0 0)) → H' g = some (.lst (gs.map V.int)) → H' c = some (.lst (cs.map V.int)) → cs.length ≤ 2 ^ 62 → Q (.ref st) H'
def ρ0 : Hp → Prop := fun r => r = fun _ => none
section
variable {P : Program} {w : World} {K : PySem.W.Frag} {mg : Str → Option Value} {base : Heap}
theorem begun_ok {qual x : Str} {params : Arguments} {scope : Scope} {kws : List (Str × V)} {f : Addr} {fd : FuncData} {N : List Str} {k : Nat} {s1 : Stmt} {e2 : Expr} {k1 k2 k3 k4 k5 k6 : Nat} {p1 p2 p3 p4 p5 p6 p7 p8 p9 : Pos}
    (F : FunD K x qual params [s1, .Return (some (.Dict [some (.Constant (.str "great") k1 p1), some (.Constant (.str "cells") k2 p2), some (.Constant (.str "rest") k3 p3), some (.Constant (.str "turn") k4 p4)] [.Name "great" p5, e2, .Constant (.int 0) k5 p6, .Constant (.int 0) k6 p7] p8)) p9] scope [] kws f fd)
    (Sc : FnScope N ["script"] scope) (hN : N[1]? = some ("great" : Str)) (hv : Vis scope "great")
    (hbody : ∀ (cdv : Value) (A : Around) (outer : List Env) (s : Shared) (H : Hp) (E : XK) (W : Wd), (ctx P w K mg base N qual scope f cdv A outer s H E ρ0 W (fun _ => False)).Ok → Room k (A.deeper (envOfC qual scope s.heap.objs.size f cdv)) →
      ∃ t1 t2, DS (ctx P w K mg base N qual scope f cdv A outer s H E ρ0 W (fun _ => False)) s1 t1 ∧ DE (ctx P w K mg base N qual scope f cdv A outer s H E ρ0 W (fun _ => False)) e2 t2 ∧
      ∀ ns : List Int, ns.length < sizeLine → ∀ Q : S → Prop, (∀ (c : Addr) (cs : List Int), cs.length ≤ 2 ^ 62 → Q (.own c (cs.map PyData.int))) →
        t1 { nx := fun δ => (∃ (g : Addr) (gs : List Int), δ[1]? = some (some (.own g (gs.map PyData.int)))) ∧ t2 δ Q, rt := fun _ => False } (startD N [.d (.list (ns.map PyData.int))])) :
    FnOk P w K mg base (L2.CX P w) (k + 1) f fd ["script"] (SpBegun K) := by
  refine F.ok Sc (fun vs H Q E h => ?_) fun cdv A outer s H vs Q E hr h => ?_
  · obtain ⟨a, ns, rfl, _⟩ := h
    rfl
  · obtain ⟨a, ns, rfl, hs, hl, q⟩ := h
    have ok : (ctx P w K mg base N qual scope f cdv A outer s H E ρ0 ⟨H, fun _ => none⟩ (fun _ => False)).Ok := ⟨takes_of rfl rfl rfl rfl, fun x cls d W' H' e w' st r => e.elim⟩
    obtain ⟨t1, t2, ⟨ts, g1, g2⟩, ⟨tv, h1, h2⟩, rd⟩ := hbody cdv A outer s H E ⟨H, fun _ => none⟩ ok hr
    refine ⟨_, pss_cons g1 (pss_one (ps_ret (pe_disp (pps_cons pe_str (pe_var (i := 1) hN hv (by decide) (by decide)) (pps_cons pe_str h1 (pps_cons pe_str pe_int (pps_cons pe_str pe_int pps_nil)))) (by rfl) (by rfl) (by simp) (by simp)))), ?_⟩
    have w0 : WOk ρ0 ⟨H, fun _ => none⟩ H := ⟨fun _ _ e => e, fun _ _ e => (nomatch e), fun _ _ _ => rfl, rfl⟩
    have hNl : 1 < N.length := (List.getElem?_eq_some_iff.mp hN).1
    have st0 := sat_start (C := ctx P w K mg base N qual scope f cdv A outer s H E ρ0 ⟨H, fun _ => none⟩ (fun _ => False)) (N := N) (ss := [.d (.list (ns.map PyData.int))]) (vs := [.ref a]) w0 (.cons (Dp.lst (H := H) hs (dpAll_of_ints ns)) .nil) (by intro p xs hm; simp at hm) rfl rfl (by simp; omega)
    refine g2 _ _ _ _ _ _ st0 (rd ns hl (fun s => ∃ (c : Addr) (cs : List Int), s = .own c (cs.map PyData.int) ∧ cs.length ≤ 2 ^ 62) fun c cs hc => ⟨c, cs, rfl, hc⟩) ⟨fun δ σ W H1 sat _ qq => ?_, fun _ _ _ _ _ _ _ _ z => z.elim, fun _ _ _ _ _ _ z => z.elim, fun _ _ _ _ _ _ z => z.elim⟩
    obtain ⟨⟨g, gs, eg⟩, qq⟩ := qq
    obtain ⟨vg, f1, k1, k2, k3, k4⟩ := sat.own eg
    intro p hp
    obtain ⟨fb, fr⟩ := sat.ok.free hp
    have sl := Step.lay (W := W) (o := HO.dK []) hp
    have s1 := sat.go (sat.ok.lay (o := HO.dK []) fb fr) sl
    refine ⟨.ref g, f1, ?_⟩
    refine h2 δ σ W _ _ _ s1 qq fun v W2 H2 sc s2 st2 r2 fr2 ⟨c, cs, esc, hcs⟩ => ?_
    subst esc
    obtain ⟨rfl, vc, m1, m2, m3, m4⟩ := r2
    have hpc := fr2 c _ rfl
    have hpc' : c ≠ p := fun z => by rw [z, upd_same] at hpc; cases hpc
    rw [upd_ne hpc'] at hpc
    have hgp : g ≠ p := fun z => by rw [z, hp] at k1; cases k1
    have hgc : g ≠ c := fun z => by rw [z, hpc] at k1; cases k1
    have kp := st2.keep p _ upd_same fr
    have kg := st2.keep g _ (show upd H1 p (HO.dK []) g = _ by rw [upd_ne hgp]; exact k1) k3
    have e1 := dpAll_ints k4
    have e2 := dpAll_ints m4
    subst e1 e2
    refine ⟨kp, stK g c 0 0, rfl, (show 4 ≤ 15 by decide), ?_⟩
    have old : ∀ b o, H b = some o → H1 b = some o := fun b o e => sat.ok.bH b o (sat.step.b b o e)
    have nH : ∀ b, H1 b = none → H b = none := fun b e => by
      cases z : H b with
      | none => rfl
      | some o =>
        have := old b o z
        rw [e] at this
        cases this
    refine q _ p g c gs cs (fun b o e => ?_) (nH p hp) (sat.new 1 g _ eg) (nH c hpc) ⟨hgp.symm, hpc'.symm, hgc⟩ upd_same (by rw [upd_ne hgp]; exact kg) (by rw [upd_ne hpc']; exact m1) hcs
    have hb1 := old b o e
    have nb : b ≠ p := fun z => by rw [z, hp] at hb1; cases hb1
    rw [upd_ne nb]
    refine st2.keep b o (by rw [upd_ne nb]; exact hb1) ?_
    have wr : W.r = fun _ => none := sat.ok.res
    rw [wr]
end
end DL

-- part DLu
/-! promises at contexts of a kind: repr needs that no repr is under way -/
namespace DL
open PySem PySem.Spec PyProof.Rows L2
/-- a def's promise, told of the contexts with Ok alone -/
structure FnAt (Ok : Around → Prop) (P : Program) (w : World) (K : PySem.W.Frag) (mg : Str → Option Value) (base : Heap) (f : Addr) (fd : FuncData) (ps : List Str) (sp : Sp) : Prop where
  sz : ∀ vs H Q E, sp vs H Q E → vs.length = ps.length
  go : ∀ (A : Around) (st : List Env) (s : Shared) (H : Hp) (as : Args) (us : List Value) (vs : List V) (Q : VK) (E : XK), Ok A → Env0 P w K mg base A st s H → BindsTo s fd as (ps.zip us) → Vals vs us → sp vs H Q E →
    codeAny (model P w) A (.call (.ref f) as) (CR (L2.CX P w) st P w H s Q E) s
/-- no repr is under way -/
def Quiet (k : Nat) (A : Around) : Prop := Room k A ∧ A.guards = some []
section
variable {P : Program} {w : World} {K : PySem.W.Frag} {mg : Str → Option Value} {base : Heap}
theorem FunD.at' {Ok : Around → Prop} {x qual : Str} {params : Arguments} {body : List Stmt} {scope : Scope} {kws : List (Str × V)} {f : Addr} {fd : FuncData} {N ps : List Str} {sp : Sp} (F : FunD K x qual params body scope [] kws f fd) (S : FnScope N ps scope)
    (hOk : ∀ A, Ok A → ∃ k, Room (k + 1) A) (len : ∀ vs H Q E, sp vs H Q E → vs.length = ps.length)
    (hbody : ∀ (cdv : Value) (A : Around) (st : List Env) (s : Shared) (H : Hp) (vs : List V) (Q : VK) (E : XK), Ok A → sp vs H Q E →
      ∃ t, PSs (cxOf (L2.CX P w) P w K mg base N qual scope f cdv A st s H E) body t ∧ t { nx := fun _ H' => Q .non H', rt := Q } (start N vs) H) : FnAt Ok P w K mg base f fd ps sp := by
  obtain ⟨oc, od, dV, kV, doc, pm, an, cdv, ct, osl, rfl, lk, hcd, _, _⟩ := F.ex
  refine ⟨len, fun A st s H as us vs Q E ok e0 hb r hsp => ?_⟩
  obtain ⟨k, hr⟩ := hOk A ok
  have kin := e0.mod.kin.keeps (fun b o e => (e0.bs b o e).1) (h' := s.heap)
  have two : ∀ y ∈ ps.zip us, scope.names.lookup y.1 = some .local ∨ (scope.names.lookup y.1 = some .cell ∧ ((cellsFrom (s.heap.objs.size + 1) scope.names []).lookup y.1).isSome = true) := by
    rintro ⟨n, v⟩ hy
    have hn := (List.of_mem_zip hy).1
    cases S.par n hn with
    | inl q => exact Or.inl q
    | inr q => exact Or.inr ⟨q, PySem.W.cellsFrom_some _ _ _ (Or.inl q)⟩
  apply codeAny_call_function hr.depth (kin _ _ lk) rfl S.co S.gen rfl (PySem.W.codeRec_of kin hcd)
  apply hb
  apply wpAny_newFunctionEnv_cells S.kind two
  intro env he s1 xx
  subst he
  refine ⟨(e0.mod.nolimit.keeps fun b o e => (e0.bs b o e).1).keeps xx.toInCall.keep, codeAny_func ?_⟩
  obtain ⟨t, ht, hq⟩ := hbody cdv A st s H vs Q E ok hsp
  have I0 := inv_start (CX := L2.CX P w) (E := E) (qual := qual) (N := N) (cd := cdv) S hr.hd e0 (len _ _ _ _ hsp) r xx
  refine wpAny_mono (ht.run [] s1 (start N vs) H _ I0 hq) (fun fl s' hs => ?_) fun e s' hs => hs
  have out : ∀ (τ : L2.St) (H' : Hp) (v : V) (u : Value), Inv (cxOf (L2.CX P w) P w K mg base N qual scope f cdv A st s H E) [] τ H' s' → RelV v u → Q v H' → CE st P w H s Q u s' := fun τ H' v u J rv q => ⟨v, H', J.os, J.bare, J.base, J.hok, rv, q⟩
  match fl, hs with
  | .ret u, ⟨v, τ, H', J, rv, q⟩ => exact out τ H' v u J rv q
  | .next, ⟨τ, H', J, q⟩ => exact out τ H' .non .none J rfl q
  | .brk, ⟨_, _, _, q⟩ => exact q.elim
  | .cont, ⟨_, _, _, q⟩ => exact q.elim
/-- f(..) of such a def -/
theorem pe_callAt {X : Cx} {Ok : Around → Prop} {f : Addr} {fd : FuncData} {ps : List Str} {sp : Sp} {E : XK} {x : Str} {p pos : Pos} {e : Expr} {es : List Expr} {t : TA} (F : FnAt Ok X.prog X.w X.K X.mg X.base f fd ps sp) (ok : Ok X.A) (hg : Gl X x) (hm : X.mg x = some (.ref f)) (hk : PySem.W.keepIn X.K (.ref f) = true) (hb : Binds X.K fd ps [])
    (hx : Passes (L2.CX X.prog X.w) X E) (ha : PA X (e :: es) t) (hdb : (x == ("__debug__" : Str)) = false := by decide) (he : starEach (e :: es) X.env = (false, eval e X.env) :: starEach es X.env := by rfl) (hpl : (backTo pos (starEach es X.env)).any (·.1) = false := by rfl) :
    PE X (.Call (.Name x p) (e :: es) [] pos) (tCall sp [] E t) := by
  constructor
  intro pins s σ H Q I h
  apply wpAny_Call_Name_kw
  refine ld_glob I hg hm ?_ hdb
  refine PySem.W.callWith_K (h₀ := X.base) I.ok.mod.kin hk (thn (ha.run pos pins s σ H _ I h) ?_) he hpl
  rintro us s1 ⟨vs, H1, I1, r, q⟩
  refine ⟨I1.kIn, ?_⟩
  rw [List.append_nil] at q
  have hl : (us ++ []).length = ps.length := by rw [List.append_nil, ← r.length]; exact F.sz _ _ _ _ q
  have hbb := hb s1 us I1.kIn hl
  rw [List.append_nil] at hbb
  refine wpAny_call (codeAny_mono (F.go X.A X.stack s1 H1 ⟨us, []⟩ us vs Q E ok I1.env0 hbb r q) ?_)
  intro res s' hq
  match res, hq with
  | .error e, hq => exact hx pins σ H1 s1 e s' I1 hq
  | .ok (.ret u), hq => exact I1.after hq
  | .ok .next, hq => exact False.elim hq
  | .ok .brk, hq => exact False.elim hq
  | .ok .cont, hq => exact False.elim hq
/-- a law at its caller -/
theorem law_at {mb : Str → Option Value} {fa a : Addr} {fd : FuncData} {x : Str} {sp : Sp} {s1 : Shared} {vs : List Value} {ns : List Int} (kin : K.In s1.heap) (gl : s1.heap.Ns mainGlobals mg) (bl : s1.heap.Ns builtinsNs mb) (bb : ∀ x : Str, x ≠ "__name__" → mb x = bootBuiltins x) (nl : s1.heap.NoLimit)
    (g0 : s1.gens = #[]) (obj : s1.heap.get? a = some { cls := .type "list", data := .seq vs.toArray }) (hin : IntsAre vs ns) (hl : ns.length ≤ sizeLine) (F : ∀ base : Heap, K.In base → base.Ns mainGlobals mg → FnAt (· = callerA) P w K mg base fa fd [x] sp)
    (bind : ∀ (s : Shared) (u : Value), BindsTo s fd ⟨[u], []⟩ [(x, u)]) (hsp : ∀ H : Hp, SqL K H a (ns.map V.int) → sp [.ref a] H (fun v _ => v = .bl true) fun _ _ _ => False) (noX : ∀ H e s', L2.CX P w [] H s1 (fun _ _ _ => False) e s' → False) :
    codeAny (model P w) callerA (.call (.ref fa) ⟨[.ref a], []⟩) (fun r s' => r = .ok (.ret (.bool true)) ∧ OldK s1.heap s'.heap ∧ s'.os = s1.os ∧ AllBare s'.gens) s1 := by
  have vals := vals_ints hin
  -- what is tracked: the script, if it is no object of the module
  let H : Hp := fun b => if b = a ∧ K.lookup a = none then some (.frz { cls := .type "list", data := .seq vs.toArray } (.lst (ns.map V.int))) else none
  have Hother : ∀ b, b ≠ a → H b = none := fun b hb => if_neg fun z => hb z.1
  have Hk : ∀ {o}, K.lookup a = some o → ∀ b, H b = none := fun {o} hk b => if_neg fun z => by rw [hk] at z; cases z.2
  have Ha : K.lookup a = none → H a = some (.frz { cls := .type "list", data := .seq vs.toArray } (.lst (ns.map V.int))) := fun hk => if_pos ⟨rfl, hk⟩
  have notList : ∀ {b : Addr} {o : Obj}, s1.heap.get? b = some o → (∀ its n, o.data ≠ .seq its n) → H b = none := fun {b o} e nd => by
    by_cases hb : b = a
    · subst hb
      rw [obj] at e
      cases e
      exact absurd rfl (nd _ _)
    · exact Hother b hb
  have hok : HOk P w H s1.heap := fun b u z => by
    by_cases hb : b = a
    · subst hb
      cases hk : K.lookup b with
      | some o =>
        rw [Hk hk b] at z
        cases z
      | none =>
        rw [Ha hk] at z
        cases z
        exact ⟨obj, by rw [List.length_map]; exact hl, vs, _, vals, obj⟩
    · rw [Hother b hb] at z
      cases z
  have script : SqL K H a (ns.map V.int) := by
    cases hk : K.lookup a with
    | some o =>
      have e := kin a o hk
      rw [obj] at e
      cases e
      exact .inr ⟨_, vs.toArray, _, hk, rfl, rfl, rfl, by rw [List.size_toArray, hin.length]; exact hl, by simpa using vals⟩
    | none => exact .inl (.inr ⟨_, Ha hk⟩)
  have ns' : ∀ {b : Addr} {m : Str → Option Value}, s1.heap.Ns b m → (hidT s1.heap H).Ns b m := fun {b m} q => by
    obtain ⟨o, es, ep, e, d, r⟩ := q
    exact ⟨o, es, ep, hidT_get e (notList e fun its n z => by rw [d] at z; cases z), d, r⟩
  have kb : K.In (hidT s1.heap H) := fun b o e => hidT_get (kin b o e) (by
    by_cases hb : b = a
    · subst hb
      exact Hk e b
    · exact Hother b hb)
  have md : Mod K mg (hidT s1.heap H) := ⟨kb, ns' gl, ⟨mb, ns' bl, bb⟩, by
    obtain ⟨mc, h1, h2⟩ := nl
    exact ⟨mc, ns' h1, h2⟩⟩
  have env : Env0 P w K mg (hidT s1.heap H) callerA [] s1 H := ⟨rfl, md, fun b o e => of_hidT e, by rw [hidT_size]; exact Nat.le_refl _, trivial, fun b hb => (nomatch hb), hok, .of_eq g0⟩
  refine codeAny_mono ((F _ kb (ns' gl)).go callerA [] s1 H _ [.ref a] [.ref a] _ _ rfl env (bind s1 (.ref a)) (.cons rfl .nil) (hsp H script)) ?_
  intro r s' h
  match r, h with
  | .error e, h => exact (noX H e s' h).elim
  | .ok .next, h => exact False.elim h
  | .ok .brk, h => exact False.elim h
  | .ok .cont, h => exact False.elim h
  | .ok (.ret u), ⟨v, H', os, bare, un, ok', rv, q⟩ =>
    have qv : v = .bl true := q
    subst qv
    have eu : u = .bool true := rv
    subst eu
    refine ⟨rfl, OldK.of_keep fun b o e => ?_, os, bare⟩
    by_cases hb : H b = none
    · exact un.keep b o e hb (fun z => by cases z) (fun z => by cases z)
    · have eb : b = a := Classical.byContradiction fun z => hb (Hother b z)
      subst eb
      cases hk : K.lookup b with
      | some o' => exact absurd (Hk hk b) hb
      | none =>
        obtain ⟨e2, _⟩ := ok' b _ (un.frzs b _ _ (Ha hk))
        rw [obj] at e
        cases e
        exact e2
end
/-- a law's end by such a promise -/
theorem walk_at' {l : PySem.W.OpenLaw} {n : Nat} {q : Program} {loose : List Str} {XP : (Str → Option Value) → Heap → Prop} {YP : World → Heap → Prop} {d : DefRec} {x : Str} (hn : l.most = some n) (hn2 : n ≤ sizeLine) (hdf : d.params.defaults = [])
    (F : ∀ (w : World) (mg : Str → Option Value) (fa : Addr) (h : Heap), YP w h → h.Ns mainGlobals mg → mg d.name = some (.ref fa) →
      ∃ (K : PySem.W.Frag) (fd : FuncData) (sp : Sp), K.In h ∧ (∀ (s : Shared) (u : Value), BindsTo s fd ⟨[u], []⟩ [(x, u)]) ∧ (∀ (H : Hp) (a : Addr) (ns : List Int), ns.length ≤ n → SqL K H a (ns.map V.int) → sp [.ref a] H (fun v _ => v = .bl true) fun _ _ _ => False) ∧
        ∀ base : Heap, K.In base → base.Ns mainGlobals mg → FnAt (· = callerA) l.prog w K mg base fa fd [x] sp) (hCX : ∀ (w : World) (H : Hp) (s : Shared) (e : Value) (s' : Shared), L2.CX l.prog w [] H s (fun _ _ _ => False) e s' → False) :
    PySem.W.WalkO q loose XP YP l.row.toRowW d [] (fun f vs => PySem.call f vs) := by
  apply Att.attach_call hn hdf
  intro w s0 s1 mg mb fa o pm cd doc a vs ns G Y _ _ _ hmg obj hin len hg
  obtain ⟨K, fd, sp, KX, hb, hsp, hF⟩ := F w mg fa _ Y G.T.g hmg
  exact law_at KX G.T.g G.T.b G.T.builtins G.T.nolimit hg obj hin (Nat.le_trans len hn2) hF hb (fun H hS => hsp H a ns len hS) fun H e s2 => hCX w H s1 e s2
end DL

-- part DLk
/-! the costed layer: what draws from the state; R k: the resource, at most k turns of it -/
namespace DL
open PySem PySem.Spec PyProof.Rows L2
def LIM : Nat := 2 ^ 40
abbrev Rs : Type := Nat → Hp → Prop
def RMono (R : Rs) : Prop := ∀ j k r, j ≤ k → R j r → R k r
theorem stK_mono {st g c : Addr} {cs : List Int} : RMono (StK st g c cs) := fun j k r h q => by
  obtain ⟨a, ⟨gs, rest, turn, h1, h2⟩, l⟩ := q
  exact ⟨a, ⟨gs, rest, turn, Nat.le_trans h1 h, h2⟩, l⟩
/-- the context at k turns -/
abbrev DC.at (C : DC) (R : Rs) (k : Nat) : DC := { C with ρ := R k }
theorem WOk.up {R : Rs} (m : RMono R) {j k : Nat} {W : Wd} {H : Hp} (w : WOk (R j) W H) (h : j ≤ k) : WOk (R k) W H := ⟨w.bH, w.rH, w.dj, m j k _ h w.res⟩
theorem Sat.up {C : DC} {R : Rs} (m : RMono R) {j k : Nat} {δ : Sl} {σ : L2.St} {W : Wd} {H : Hp} (s : Sat (C.at R j) δ σ W H) (h : j ≤ k) : Sat (C.at R k) δ σ W H := ⟨s.ok.up m h, s.step, s.sl, s.ap, s.new, s.len⟩
/-! ### judgements -/
def canE (C : DC) (R : Rs) (n : Nat) (t : TD) : TE := fun σ H QV => ∃ (k : Nat) (δ : Sl) (W : Wd) (Q : S → Prop), k + n ≤ LIM ∧ Sat (C.at R k) δ σ W H ∧ t δ Q ∧ ∀ v W' H' s, Sat (C.at R (k + n)) δ σ W' H' → Step W H W' H' → SOk C.X.K W' H' s v → Fresh H s → Q s → QV v H'
def canK (C : DC) (R : Rs) (n : Nat) (t : TV) : TE := fun σ H QV => ∃ (k : Nat) (δ : Sl) (W : Wd) (Q : D → Prop), k + n ≤ LIM ∧ Sat (C.at R k) δ σ W H ∧ t δ Q ∧ ∀ v W' H' x, Sat (C.at R (k + n)) δ σ W' H' → Step W H W' H' → Dp C.X.K W'.b v x → Q x → QV v H'
def canA (C : DC) (R : Rs) (n : Nat) (t : TAr) : TA := fun σ H QV => ∃ (k : Nat) (δ : Sl) (W : Wd) (Q : List S → Prop), k + n ≤ LIM ∧ Sat (C.at R k) δ σ W H ∧ t δ Q ∧ ∀ vs W' H' ss, Sat (C.at R (k + n)) δ σ W' H' → Step W H W' H' → All2 C.X.K W' H' ss vs → Q ss → QV vs H'
def canB (C : DC) (R : Rs) (n : Nat) (t : TB) : TT := fun σ H QV => ∃ (k : Nat) (δ : Sl) (W : Wd) (Q : Bool → Prop), k + n ≤ LIM ∧ Sat (C.at R k) δ σ W H ∧ t δ Q ∧ ∀ b W' H', Sat (C.at R (k + n)) δ σ W' H' → Step W H W' H' → Q b → QV b H'
def KE (C : DC) (R : Rs) (n : Nat) (e : Expr) (t : TD) : Prop := PE C.X e (canE C R n t)
def KV (C : DC) (R : Rs) (n : Nat) (e : Expr) (t : TV) : Prop := PE C.X e (canK C R n t)
def KA (C : DC) (R : Rs) (n : Nat) (es : List Expr) (t : TAr) : Prop := PA C.X es (canA C R n t)
def KT (C : DC) (R : Rs) (n : Nat) (e : Expr) (t : TB) : Prop := PT C.X e (canB C R n t)
structure EndsK (C : DC) (R : Rs) (m : Nat) (Ws : Wd) (D : EndsD) (DV : Ends) : Prop where
  nx : ∀ δ σ W H, Sat (C.at R m) δ σ W H → BLe Ws W → D.nx δ → DV.nx σ H
  rt : ∀ s v W H, WOk (R m) W H → Step C.W0 C.H0 W H → SOk C.X.K W H s v → Fresh C.H0 s → D.rt s → DV.rt v H
  bk : ∀ δ σ W H, Sat (C.at R m) δ σ W H → BLe Ws W → D.bk δ → DV.bk σ H
  ct : ∀ δ σ W H, Sat (C.at R m) δ σ W H → BLe Ws W → D.ct δ → DV.ct σ H
def canS (C : DC) (R : Rs) (n : Nat) (t : TSD) : TS := fun DV σ H => ∃ (k : Nat) (δ : Sl) (W : Wd) (D : EndsD), k + n ≤ LIM ∧ Sat (C.at R k) δ σ W H ∧ t D δ ∧ EndsK C R (k + n) W D DV
def KS (C : DC) (R : Rs) (n : Nat) (st : Stmt) (t : TSD) : Prop := PS C.X st (canS C R n t)
def KSs (C : DC) (R : Rs) (n : Nat) (st : List Stmt) (t : TSD) : Prop := PSs C.X st (canS C R n t)
section
variable {C : DC} {R : Rs} {n m : Nat} {a b c e : Expr} {es : List Expr} {ta tb tc : TV} {td te : TD} {tr : TAr} {pos p : Pos} {st : Stmt} {rest : List Stmt} {t u : TSD}
theorem pe_imp {X : Cx} {e : Expr} {t t' : TE} (h : PE X e t) (i : ∀ σ H Q, t' σ H Q → t σ H Q) : PE X e t' := ⟨fun pins s σ H Q I q => h.run pins s σ H Q I (i σ H Q q)⟩
theorem pa_imp {X : Cx} {es : List Expr} {t t' : TA} (h : PA X es t) (i : ∀ σ H Q, t' σ H Q → t σ H Q) : PA X es t' := ⟨fun pos pins s σ H Q I q => h.run pos pins s σ H Q I (i σ H Q q)⟩
theorem ps_imp {X : Cx} {st : Stmt} {t t' : TS} (h : PS X st t) (i : ∀ D σ H, t' D σ H → t D σ H) : PS X st t' := ⟨fun pins s σ H D I q => h.run pins s σ H D I (i D σ H q)⟩
theorem pss_imp {X : Cx} {st : List Stmt} {t t' : TS} (h : PSs X st t) (i : ∀ D σ H, t' D σ H → t D σ H) : PSs X st t' := ⟨fun pins s σ H D I q => h.run pins s σ H D I (i D σ H q)⟩
theorem pt_imp {X : Cx} {e : Expr} {t t' : TT} (h : PT X e t) (i : ∀ σ H Q, t' σ H Q → t σ H Q) : PT X e t' := ⟨fun pins s σ H Q I q => h.run pins s σ H Q I (i σ H Q q)⟩
/-! ### what costs nothing -/
theorem ke_of (h : ∀ k, DE (C.at R k) e td) : KE C R 0 e td := ⟨fun pins s σ H Q I ⟨k, δ, W, Qd, _, sat, q, kk⟩ => by
  obtain ⟨tv, h1, h2⟩ := h k
  exact h1.run pins s σ H Q I (h2 δ σ W H Qd Q sat q kk)⟩
theorem kv_of (h : ∀ k, DV (C.at R k) e ta) : KV C R 0 e ta := ⟨fun pins s σ H Q I ⟨k, δ, W, Qd, _, sat, q, kk⟩ => by
  obtain ⟨tv, h1, h2⟩ := h k
  exact h1.run pins s σ H Q I (h2 δ σ W H Qd Q sat q kk)⟩
theorem ka_of (h : ∀ k, DA (C.at R k) es tr) : KA C R 0 es tr := ⟨fun pos pins s σ H Q I ⟨k, δ, W, Qd, _, sat, q, kk⟩ => by
  obtain ⟨tv, h1, h2⟩ := h k
  exact h1.run pos pins s σ H Q I (h2 δ σ W H Qd Q sat q kk)⟩
theorem kt_of {t : TB} (h : ∀ k, DT (C.at R k) e t) : KT C R 0 e t := ⟨fun pins s σ H Q I ⟨k, δ, W, Qd, _, sat, q, kk⟩ => by
  obtain ⟨tv, h1, h2⟩ := h k
  exact h1.run pins s σ H Q I (h2 δ σ W H Qd Q sat q kk)⟩
theorem ks_of (h : ∀ k, DS (C.at R k) st t) : KS C R 0 st t := ⟨fun pins s σ H D I ⟨k, δ, W, Dd, _, sat, q, kk⟩ => by
  obtain ⟨tv, h1, h2⟩ := h k
  exact h1.run pins s σ H D I (h2 δ σ W H Dd D sat q ⟨kk.nx, kk.rt, kk.bk, kk.ct⟩)⟩
theorem kss_of (h : ∀ k, DSs (C.at R k) rest t) : KSs C R 0 rest t := ⟨fun pins s σ H D I ⟨k, δ, W, Dd, _, sat, q, kk⟩ => by
  obtain ⟨tv, h1, h2⟩ := h k
  exact h1.run pins s σ H D I (h2 δ σ W H Dd D sat q ⟨kk.nx, kk.rt, kk.bk, kk.ct⟩)⟩
/-! ### back and forth -/
theorem ke_d (h : KV C R n e ta) : KE C R n e (toD ta) := pe_imp h fun σ H Q ⟨k, δ, W, Qd, hk, sat, q, kk⟩ => ⟨k, δ, W, _, hk, sat, q, fun v W' H' x s' st r q' => kk v W' H' (.d x) s' st r (fun _ _ z => nomatch z) q'⟩
theorem kv_frz (h : KE C R n e td) : KV C R n e (frz td) := pe_imp h fun σ H Q ⟨k, δ, W, Qd, hk, sat, q, kk⟩ => ⟨k, δ, W, _, hk, sat, q, fun v W' H' s s1 st r f q' => by
  cases s with
  | d x => exact kk v W' H' x s1 st r q'
  | v x => exact q'.elim
  | dic kvs => exact q'.elim
  | own p xs =>
    obtain ⟨rfl, vs, hH, hb, hr, rr⟩ := r
    have hp := f p xs rfl
    obtain ⟨W2, s2, st2, r2⟩ := s1.give st hp hH hb hr rr (sat.apart hp) (sat.entry hp)
    exact kk _ W2 H' (.list xs) s2 st2 r2 q'⟩
/-! ### two operands -/
theorem kv_op2 {op : Operator} {r : R2} {d : D → D → (D → Prop) → Prop} (ho : OpR C.X (binaryOp op) r) (hd : ∀ k, DOp (C.at R k) r d) (ha : KV C R n a ta) (hb : KV C R m b tb) : KV C R (n + m) (.BinOp a op b pos) (tv2 d ta tb) :=
  pe_imp (pe_op ho ha hb) fun σ H Q ⟨k, δ, W, Qd, hk, sat, q, kk⟩ => ⟨k, δ, W, _, by omega, sat, q, fun v W1 H1 x s1 st1 r1 q1 => ⟨k + n, δ, W1, _, by omega, s1, q1, fun u W2 H2 y s2 st2 r2 q2 =>
    hd (k + n + m) v u x y W2 H2 Qd Q s2.ok (dp_mono st2.b r1) r2 q2 fun z W3 H3 dz w3 st3 r3 q3 => kk z W3 H3 dz (by rw [← Nat.add_assoc]; exact s2.go w3 st3) ((st1.trans st2).trans st3) r3 q3⟩⟩
theorem kv_add (ha : KV C R n a ta) (hb : KV C R m b tb) : KV C R (n + m) (.BinOp a .Add b pos) (tv2 dAdd ta tb) := kv_op2 op_addA (fun _ => dop_add) ha hb
theorem kv_sub (ha : KV C R n a ta) (hb : KV C R m b tb) : KV C R (n + m) (.BinOp a .Sub b pos) (tv2 dSub ta tb) := kv_op2 op_sub (fun _ => dop_I0) ha hb
theorem kv_mul (ha : KV C R n a ta) (hb : KV C R m b tb) : KV C R (n + m) (.BinOp a .Mult b pos) (tv2 dMul ta tb) := kv_op2 (op_mulO (C := C)) (fun _ => dop_I) ha hb
/-! ### arguments, displays -/
theorem ka_nil : KA C R 0 [] arNil := ka_of fun _ => da_nil
theorem ka_cons (ha : KE C R n e td) (hr : KA C R m es tr) (hs : starEach (e :: es) C.X.env = (false, eval e C.X.env) :: starEach es C.X.env := by rfl) : KA C R (n + m) (e :: es) (arCons td tr) :=
  pa_imp (pa_cons ha hr hs) fun σ H Q ⟨k, δ, W, Qd, hk, sat, q, kk⟩ => ⟨k, δ, W, _, by omega, sat, q, fun v W1 H1 s s1 st1 r1 f1 q1 => ⟨k + n, δ, W1, _, by omega, s1, q1.2, fun vs W2 H2 ss s2 st2 r2 q2 =>
    kk (v :: vs) W2 H2 (s :: ss) (by rw [← Nat.add_assoc]; exact s2) (st1.trans st2) (.cons (r1.step st2) r2) q2⟩⟩
theorem ka_d (ha : KV C R n e ta) (hr : KA C R m es tr) (hs : starEach (e :: es) C.X.env = (false, eval e C.X.env) :: starEach es C.X.env := by rfl) : KA C R (n + m) (e :: es) (arCons (toD ta) tr) := ka_cons (ke_d ha) hr hs
theorem kv_tup {x1} (h : KA C R n es tr) : KV C R n (.Tuple es x1 pos) (tvTup tr) := pe_imp (pe_tup h) fun σ H Q ⟨k, δ, W, Qd, hk, sat, q, kk⟩ => ⟨k, δ, W, _, hk, sat, q, fun vs W1 H1 ss s1 st1 r1 ⟨xs, e, hz, q1⟩ => by
  have r := allD_dp e r1
  refine ⟨by rw [dpAll_len r]; exact hz, fun p hp => ?_⟩
  have st := Step.put (o := .tup vs) s1.ok.bH hp
  exact kk _ _ _ _ (s1.go (s1.ok.put hp) st) (st1.trans st) (put_tup (C := C.at R (k + n)) s1.ok hp r) q1⟩
theorem ke_lst (h : KA C R n es tr) : KE C R n (.List es pos) (tdLst tr) := pe_imp (pe_lst h) fun σ H Q ⟨k, δ, W, Qd, hk, sat, q, kk⟩ => ⟨k, δ, W, _, hk, sat, q, fun vs W1 H1 ss s1 st1 r1 ⟨xs, e, hz, q1⟩ => by
  have r := allD_dp e r1
  exact ⟨by rw [dpAll_len r]; exact hz, fun p hp => fin_lst s1 st1 hp r (q1 p) kk⟩⟩
/-! ### calls -/
theorem liftK {r : List V → Hp → VK → Prop} {d : List S → (S → Prop) → Prop} (hd : ∀ k, DCall (C.at R k) r d) : ∀ σ H Q, canE C R n (tdB d tr) σ H Q → tCB r (canA C R n tr) σ H Q := fun σ H Q ⟨k, δ, W, Qd, hk, sat, q, kk⟩ =>
  ⟨k, δ, W, _, hk, sat, q, fun vs W1 H1 ss s1 st1 r1 q1 => hd (k + n) vs ss δ σ W1 H1 Qd Q s1 r1 q1 fun v W2 H2 s s2 st2 r2 f2 q2 => kk v W2 H2 s s2 (st1.trans st2) r2 (fun z xs e => by
    cases h : H z with
    | none => rfl
    | some o =>
      obtain ⟨o', h'⟩ := st1.th z o h
      rw [f2 z xs e] at h'
      cases h') q2⟩
theorem ke_callB {id : String} {x : Str} {r : List V → Hp → VK → Prop} {d : List S → (S → Prop) → Prop} (hc : CallR C.X (.builtin id) r) (hd : ∀ k, DCall (C.at R k) r d) (hg : Gl C.X x) (hm : C.X.mg x = none) (hv : bootBuiltins x = some (.builtin id)) (ha : KA C R n (e :: es) tr)
    (hn : x ≠ "__name__" := by decide) (hdb : (x == ("__debug__" : Str)) = false := by decide) (he : starEach (e :: es) C.X.env = (false, eval e C.X.env) :: starEach es C.X.env := by rfl) (hpl : (backTo pos (starEach es C.X.env)).any (·.1) = false := by rfl) :
    KE C R n (.Call (.Name x p) (e :: es) [] pos) (tdB d tr) := pe_imp (pe_callB hc hg hm hv ha hn hdb he hpl) (liftK hd)
theorem ke_callTy {T : String} {x : Str} {r : List V → Hp → VK → Prop} {d : List S → (S → Prop) → Prop} (hc : CallR C.X (.type T) r) (hd : ∀ k, DCall (C.at R k) r d) (hg : Gl C.X x) (hm : C.X.mg x = none) (hv : bootBuiltins x = some (.type T)) (ha : KA C R n (e :: es) tr)
    (hn : x ≠ "__name__" := by decide) (hdb : (x == ("__debug__" : Str)) = false := by decide) (he : starEach (e :: es) C.X.env = (false, eval e C.X.env) :: starEach es C.X.env := by rfl) (hpl : (backTo pos (starEach es C.X.env)).any (·.1) = false := by rfl) :
    KE C R n (.Call (.Name x p) (e :: es) [] pos) (tdB d tr) := pe_imp (pe_callTy hc hg hm hv ha hn hdb he hpl) (liftK hd)
/-- a promise that costs m -/
def LC (K : PySem.W.Frag) (R : Rs) (m n : Nat) (sp : SpD) : Sp := fun vs H Q E => vs.length = n ∧ ∃ (k : Nat) (W : Wd) (ss : List S) (Qd : S → Prop), k + m ≤ LIM ∧ WOk (R k) W H ∧ All2 K W H ss vs ∧ (∀ p xs, S.own p xs ∉ ss) ∧ sp ss Qd (fun _ => False) ∧
  (∀ v W' H' s, WOk (R (k + m)) W' H' → Step W H W' H' → SOk K W' H' s v → Fresh H s → Qd s → Q v H')
abbrev FnC (P : Program) (w : World) (K : PySem.W.Frag) (mg : Str → Option Value) (base : Heap) (R : Rs) (m k : Nat) (f : Addr) (fd : FuncData) (ps : List Str) (sp : SpD) : Prop := FnOk P w K mg base (L2.CX P w) k f fd ps (LC K R m ps.length sp)
/-- a plain promise, at every k, is one that costs nothing -/
theorem fnC_of {P : Program} {w : World} {K : PySem.W.Frag} {mg : Str → Option Value} {base : Heap} {k : Nat} {f : Addr} {fd : FuncData} {ps : List Str} {sp : SpD} (F : ∀ j, FnD P w K mg base (R j) k f fd ps sp) : FnC P w K mg base R 0 k f fd ps sp where
  len := fun vs H Q E h => h.1
  run := fun A outer s H args us vs Q E hr e0 hb hv h => by
    obtain ⟨hl, j, W, ss, Qd, hk, w0, r, no, hs, q⟩ := h
    exact (F j).run A outer s H args us vs Q E hr e0 hb hv ⟨hl, W, ss, Qd, _, w0, r, no, hs, q, fun _ _ _ _ _ _ _ _ z => z.elim⟩
theorem ke_call {k : Nat} {f : Addr} {fd : FuncData} {ps : List Str} {sp : SpD} {x : Str} (F : FnC C.X.prog C.X.w C.X.K C.X.mg C.X.base R m k f fd ps sp) (ok : C.Ok) (hr : Room k C.X.A) (hm : C.X.mg x = some (.ref f)) (hk : PySem.W.keepIn C.X.K (.ref f) = true) (hb : Binds C.X.K fd ps [])
    (ha : KA C R n (e :: es) tr) (hg : Gl C.X x := by rfl) (hdb : (x == ("__debug__" : Str)) = false := by decide) (he : starEach (e :: es) C.X.env = (false, eval e C.X.env) :: starEach es C.X.env := by rfl) (hpl : (backTo pos (starEach es C.X.env)).any (·.1) = false := by rfl) :
    KE C R (n + m) (.Call (.Name x p) (e :: es) [] pos) (tdCall ps.length sp (fun _ => False) tr) :=
  pe_imp (pe_call F hr hg hm hk hb .nil (E := C.EX) (passes_call ok.tk fun _ _ _ _ z => z) ha hdb he hpl) fun σ H Q ⟨j, δ, W, Qd, hj, sat, q, kk⟩ => ⟨j, δ, W, _, by omega, sat, q, fun vs W1 H1 ss s1 st1 r1 q1 => by
    show LC C.X.K R m ps.length sp (vs ++ []) H1 Q C.EX
    rw [List.append_nil]
    refine ⟨r1.len.trans q1.1, j + n, W1, ss, Qd, by omega, s1.ok, r1, noOwn_ok q1.2.1, q1.2.2, fun v W2 H2 s w2 st2 r2 f2 q2 => ?_⟩
    have s2 : Sat (C.at R (j + (n + m))) δ σ W2 H2 := by
      rw [← Nat.add_assoc]
      exact ⟨w2, s1.step.trans st2, fun i s e => by
        obtain ⟨v, e1, e2⟩ := s1.sl i s e
        exact ⟨v, e1, e2.step st2⟩, s1.ap, s1.new, s1.len⟩
    refine kk v W2 H2 s s2 (st1.trans st2) r2 (fun z xs e => ?_) q2
    cases h : H z with
    | none => rfl
    | some o =>
      obtain ⟨o', h'⟩ := st1.th z o h
      rw [f2 z xs e] at h'
      cases h'⟩
/-! ### statements -/
theorem EndsK.on {Ws W' : Wd} {D : EndsD} {DV : Ends} (h : EndsK C R m Ws D DV) (b : BLe Ws W') : EndsK C R m W' D DV :=
  ⟨fun δ σ W H s l q => h.nx δ σ W H s (b.trans l) q, h.rt, fun δ σ W H s l q => h.bk δ σ W H s (b.trans l) q, fun δ σ W H s l q => h.ct δ σ W H s (b.trans l) q⟩
theorem EndsK.low (mo : RMono R) {j : Nat} {Ws : Wd} {D : EndsD} {DV : Ends} (h : EndsK C R m Ws D DV) (hj : j ≤ m) : EndsK C R j Ws D DV :=
  ⟨fun δ σ W H s l q => h.nx δ σ W H (s.up mo hj) l q, fun s v W H w => h.rt s v W H (w.up mo hj), fun δ σ W H s l q => h.bk δ σ W H (s.up mo hj) l q, fun δ σ W H s l q => h.ct δ σ W H (s.up mo hj) l q⟩
theorem kss_cons (mo : RMono R) (h1 : KS C R n st t) (h2 : KSs C R m rest u) : KSs C R (n + m) (st :: rest) (tsSeq t u) :=
  pss_imp (pss_cons h1 h2) fun DV σ H ⟨k, δ, W, D, hk, sat, q, ok⟩ => ⟨k, δ, W, _, by omega, sat, q, ⟨fun δ' σ' W' H' s l q' => ⟨k + n, δ', W', D, by omega, s, q', by rw [Nat.add_assoc]; exact ok.on l⟩,
    (ok.low mo (by omega)).rt, (ok.low mo (by omega)).bk, (ok.low mo (by omega)).ct⟩⟩
theorem kss_one (h1 : KS C R n st t) : KSs C R n [st] t := pss_one h1
theorem kss_nil : KSs C R 0 [] tsNext := kss_of fun _ => dss_nil
theorem ks_set {i : Nat} {x : Str} {pos' : Pos} (hN : C.X.N.Nodup) (hi : C.X.N[i]? = some x) (hx : Loc C.X.env.scope x) (he : KE C R n e td) (hs : swapsWith e (some (.Name x pos')) pos.line C.X.env = pure false := by rfl) (hf : C.X.fn x = true ∨ C.X.env.scope.names.lookup x = some .local := by first | exact .inl rfl | exact .inr rfl | assumption) :
    KS C R n (.Assign [.Name x pos'] e pos) (tsAsg td (tgName i)) :=
  ps_imp (ps_set hN hi hx he hs hf) fun DV σ H ⟨k, δ, W, D, hk, sat, q, ok⟩ => ⟨k, δ, W, _, hk, sat, q, fun v W1 H1 s s1 st1 r1 f1 q1 => by
    have sa : Sat (C.at R (k + n)) δ σ W1 H1 := s1
    refine ok.nx _ _ W1 H1 (sa.set r1 fun p xs e => ⟨?_, fun j ys hj e1 => ?_⟩) st1.b q1
    · exact sat.entry (f1 p xs e)
    · exact sat.apart (f1 p xs e) j ys e1⟩
theorem ks_ret (mo : RMono R) (he : KE C R n e td) : KS C R n (.Return (some e) pos) (tsRet td) :=
  ps_imp (ps_ret he) fun DV σ H ⟨k, δ, W, D, hk, sat, q, ok⟩ => ⟨k, δ, W, _, hk, sat, q, fun v W1 H1 s s1 st1 r1 f1 q1 => ok.rt s v W1 H1 s1.ok s1.step r1 (fun p xs e => sat.entry (f1 p xs e)) q1⟩
theorem ks_if (mo : RMono R) {tb : TB} {x y : List Stmt} {l : Nat} (hc : KT C R n c tb) (ha : KSs C R m x t) (hb : KSs C R l y u) : KS C R (n + max m l) (.If c x y pos) (tsIf tb t u) :=
  ps_imp (ps_if hc ha hb) fun DV σ H ⟨k, δ, W, D, hk, sat, q, ok⟩ => ⟨k, δ, W, _, by omega, sat, q, fun b W1 H1 s1 st1 q1 => by
    cases b with
    | true => exact ⟨k + n, δ, W1, D, by omega, s1, q1, (ok.on st1.b).low mo (by omega)⟩
    | false => exact ⟨k + n, δ, W1, D, by omega, s1, q1, (ok.on st1.b).low mo (by omega)⟩⟩
end
end DL

-- part DLm
/-! costed: the state, comprehensions, for -/
namespace DL
open PySem PySem.Spec PyProof.Rows L2
section
variable {C : DC} {st g c : Addr} {cs : List Int} {i n m l : Nat} {x : Str} {e e2 : Expr} {p pos kp : Pos} {kk : Nat} {tb : TV}
theorem ks_stPut {j : Nat} {value : Expr} {pos' : Pos} {tv : TV} (hr : Room j C.X.A) (hx : PE C.X e (tVar i)) (hv : KV C (StK st g c cs) n value tv) (hs : swapsWith value (some (.Subscript e (.Constant (.str "rest") kk kp) pos')) pos.line C.X.env = pure false := by rfl) :
    KS C (StK st g c cs) n (.Assign [.Subscript e (.Constant (.str "rest") kk kp) pos'] value pos) (tsStPut st i tv) :=
  ps_imp (ps_dput (by have := hr.un; omega) hx pe_str hv hs) fun DV σ H ⟨k, δ, W, D, hk, sat, q, ok⟩ => ⟨k, δ, W, _, hk, sat, q, fun v W1 H1 x s1 st1 r1 ⟨m, ex, e0, q1⟩ => by
    subst ex
    cases r1
    obtain ⟨W2, H2, hp, w2, st2⟩ := put_rest (C := C.at (StK st g c cs) (k + n)) (m := m) rfl s1.ok
    exact ⟨_, s1.raw e0, st, H2, rfl, hp, ok.nx δ σ _ _ (s1.go w2 st2) (st1.trans st2).b q1⟩⟩
def tvPop (st : Addr) (i : Nat) (t : TV) : TV := fun δ Q => δ[i]? = some (some (.v (.ref st))) ∧ (∀ n : Int, Q (.int n)) ∧ t δ Q
theorem kv_pop {j : Nat} {k1 k2 k3 : Nat} {p1 p2 p3 p4 p5 p6 p7 apos cpos : Pos} {e3 : Expr} (hr : Room j C.X.A) (hx : PE C.X e (tVar i)) (hx2 : PE C.X e2 (tVar i)) (hb : KV C (StK st g c cs) n e3 tb) (hs : NoSl (.Constant (.str "great") k1 p1) := by exact fun _ _ => rfl) (hs2 : NoSl (.Constant (.str "great") k2 p2) := by exact fun _ _ => rfl)
    (hbase : attributeBase (.Subscript e (.Constant (.str "great") k1 p1) p3) "pop" C.X.env (eval (.Subscript e (.Constant (.str "great") k1 p1) p3) C.X.env) = eval (.Subscript e (.Constant (.str "great") k1 p1) p3) C.X.env := by rfl)
    (hfew : ((backTo cpos (starEach [.Constant (.int 0) k3 p4] C.X.env)).all (fun x => !x.1) && (backToKw cpos (keywordEach [] C.X.env)).all (fun x => x.1.isSome)
      && decide (([.Constant (.int 0) k3 p4] : List Expr).length + ([] : List Keyword).length + (if ([] : List Keyword).isEmpty then 0 else 1) < 30)) = true := by rfl)
    (hline : (apos.endLine == cpos.line) = true := by rfl) (hst : starEach [.Constant (.int 0) k3 p4] C.X.env = (false, eval (.Constant (.int 0) k3 p4) C.X.env) :: starEach [] C.X.env := by rfl) (hplain : (backTo cpos (starEach [] C.X.env)).any (·.1) = false := by rfl) :
    KV C (StK st g c cs) n (.IfExp (.Compare (.Subscript e2 (.Constant (.str "great") k2 p2) p5) [.NotEq] [.List [] p6] p7) (.Call (.Attribute (.Subscript e (.Constant (.str "great") k1 p1) p3) "pop" apos) [.Constant (.int 0) k3 p4] [] cpos) e3 pos) (tvPop st i tb) := by
  have hu : C.X.A.units + 1 < cLine := by have := hr.un; omega
  refine pe_imp (pe_ifExp (pt_cmpR (op_neD hr.units) (pe_dget hu hx2 pe_str hs2) (pe_lst pa_nil) (nomark _)) (pe_bm PySem.F.plainAttrs_list PySem.F.slot_list_pop rfl mt_popAt (pe_dget hu hx pe_str hs) (pa_cons pe_int pa_nil hst) hbase hfew hline hst hplain) hb) fun σ H QV ⟨k, δ, W, Q, hk, sat, ⟨e0, q, qb⟩, kq⟩ => ?_
  have up : ∀ {δ σ W H}, Sat (C.at (StK st g c cs) k) δ σ W H → Sat (C.at (StK st g c cs) (k + n)) δ σ W H := fun s => s.up stK_mono (by omega)
  have sa : StK st g c cs k W.r := sat.ok.res
  obtain ⟨gs, rest, turn, h0, h1, h2, h3⟩ := sa.ex
  have hg : DGet H st (.str "great") (some (.ref g)) := DGet.k (k := .inr "great") (sat.ok.rH _ _ h1)
  unfold tIf
  refine ⟨_, sat.raw e0, st, .ref g, rfl, hg, ?_⟩
  show _ ∧ _
  refine ⟨by decide, fun l hl => ?_⟩
  have w1 := sat.ok.free hl
  have sl := Step.lay (W := W) (o := HO.lst []) hl
  have s1 := sat.go (sat.ok.lay (o := HO.lst []) w1.1 w1.2) sl
  have g1 : (upd H l (HO.lst [])) g = some (.lst (gs.map V.int)) := s1.ok.rH _ _ h2
  refine ⟨.list (gs.map PyData.int), .list [], .lst (.inl (.inl g1)) (dpAll_of_ints gs), .lst (.inl (.inl upd_same)) .nil, shN_ints.shaped (by decide), rfl, ?_⟩
  refine ⟨_, rfl, ?_⟩
  cases gs with
  | nil => exact ⟨k, δ, W, Q, hk, s1, qb, fun v W' H' x s' st' r' q' => kq v W' H' x s' (sl.trans st') r' q'⟩
  | cons m gs =>
    have hg1 : DGet (upd H l (HO.lst [])) st (.str "great") (some (.ref g)) := DGet.k (k := .inr "great") (s1.ok.rH _ _ h1)
    refine ⟨_, s1.raw e0, st, .ref g, rfl, hg1, ?_⟩
    refine ⟨.inl ⟨rfl, _, .inl (.inl g1)⟩, ?_⟩
    refine ⟨g, (m :: gs).map V.int, 0, 0, .int m, rfl, rfl, g1, by decide, by decide, ?_, rfl, ?_⟩
    · unfold seqIndex?
      simp
    · have nr : StK st g c cs k (upd W.r g (.lst (gs.map V.int))) := ⟨sa.gc, ⟨gs, rest, turn, h0, by rw [upd_ne sa.gc.1]; exact h1, upd_same, by rw [upd_ne sa.gc.2.2.symm]; exact h3⟩, sa.len⟩
      have w2 := s1.ok.res' (o := .lst (gs.map V.int)) h2 nr
      have st2 := Step.res' (o := .lst (gs.map V.int)) s1.ok h2
      exact kq (.int m) _ _ (.int m) (up (s1.go w2 st2)) (sl.trans st2) (.int m) (q m)
end
section
variable {C : DC} {R : Rs} {n m l : Nat} {a b e elt tg iter : Expr} {ifs : List Expr} {scope : Scope} {own : List (Str × Nat)} {pos p : Pos} {wi : TID} {gt : TGD} {te ta : TV} {tb : TSD}
/-! ### what is walked -/
def canI (C : DC) (R : Rs) (n : Nat) (wi : TID) : L2.TI := fun σ H RV => ∃ (k : Nat) (δ : Sl) (W : Wd) (Q : List D → Prop), k + n ≤ LIM ∧ Sat (C.at R k) δ σ W H ∧ wi δ Q ∧ ∀ J items W' H', Sat (C.at R (k + n)) δ σ W' H' → Step W H W' H' → (∀ j, ItOk (C.at R j) J items W') → items.length ≤ 2 ^ 62 → Q items → RV J H'
def KI (C : DC) (R : Rs) (n : Nat) (tg iter : Expr) (wi : TID) : Prop := PI C.X tg iter (canI C R n wi)
theorem pi_imp {X : Cx} {tg e : Expr} {t t' : L2.TI} (h : PI X tg e t) (i : ∀ σ H R, t' σ H R → t σ H R) : PI X tg e t' := ⟨fun pins s σ H R I q => h.run pins s σ H R I (i σ H R q)⟩
theorem ki_range1 {tg : Expr} (hm : C.X.mg "range" = none) (h : KV C R n a ta) (hg : Gl C.X "range" := by rfl) (hs : starEach [a] C.X.env = [(false, eval a C.X.env)] := by rfl) : KI C R n tg (.Call (.Name "range" p) [a] [] pos) (tiRng1 ta) :=
  pi_imp (pi_range1 hg hm (pa_cons h pa_nil hs) hs) fun σ H RV ⟨k, δ, W, Q, hk, sat, q, kk⟩ => ⟨k, δ, W, _, hk, sat, q, fun v W1 H1 x s1 st1 r1 ⟨n, e, hn1, hn2, q1⟩ => by
    subst e
    cases r1
    exact ⟨n, rfl, hn1, hn2, kk _ _ W1 H1 s1 st1 (fun j => itOk_rng) (by rw [rng_len]; omega) q1⟩⟩
theorem ki_seq {tg : Expr} (h : KV C R n e ta) : KI C R n tg e (tiSeq ta) :=
  pi_imp (pi_seq h) fun σ H RV ⟨k, δ, W, Q, hk, sat, q, kk⟩ => ⟨k, δ, W, _, hk, sat, q, fun v W1 H1 x s1 st1 r1 ⟨xs, e, hz, q1⟩ => by
    cases x with
    | list ys =>
      cases e
      obtain ⟨a, vs, rfl, k1, k2⟩ := dp_list_inv r1
      exact .inl ⟨a, rfl, .inl ⟨⟨vs, sqL_mono s1.ok.bH k1⟩, kk _ _ W1 H1 s1 st1 (fun j => itOk_list k1 k2) hz q1⟩⟩
    | tuple ys =>
      cases e
      obtain ⟨a, vs, rfl, k1, k2⟩ := dp_tup_inv r1
      exact .inl ⟨a, rfl, .inr ⟨⟨vs, sqT_mono s1.ok.bH k1⟩, kk _ _ W1 H1 s1 st1 (fun j => itOk_tup k1 k2) hz q1⟩⟩
    | str z =>
      cases e
      cases r1
      exact .inr ⟨z, rfl, kk _ _ W1 H1 s1 st1 (fun j => itOk_str) hz q1⟩
    | _ => cases e⟩
/-- at most L items -/
def tiMax (L : Nat) (wi : TID) : TID := fun δ Q => wi δ fun xs => xs.length ≤ L ∧ Q xs
/-! ### for -/
def canG' (C : DC) (R : Rs) (t : TGD) : L2.TG := fun v σ H QV => ∃ (k : Nat) (s : S) (δ : Sl) (W : Wd) (Q : Sl → Prop), Sat (C.at R k) δ σ W H ∧ SOk C.X.K W H s v ∧ Apart C δ s ∧ t s δ Q ∧ ∀ δ' σ', Sat (C.at R k) δ' σ' W H → Q δ' → QV σ' H
theorem ks_for {tg : Expr} {body : List Stmt} (L : Nat) (mo : RMono R) (hp : PassesOwn (model C.X.prog C.X.w) C.X.A C.X.env C.X.xe) (hc : C.X.calm = true) (hi : KI C R n tg e wi) (hg : ∀ k, DG (C.at R k) tg gt) (hb : KSs C R m body tb)
    (hs : ∀ x, foldedSetIterable e C.X.env x = pure x := by intro _; rfl) : KS C R (n + L * m) (.For tg e body [] pos) (tsFor (tiMax L wi) gt tb) := by
  have hg' : PG C.X tg (canG' C R gt) := ⟨fun pins s' σ' H' v u Q I r ⟨k, sd, δ, W, Qd, sat, ro, ap, q, kk⟩ => by
    obtain ⟨tv, g1, g2⟩ := hg k
    exact g1.run pins s' σ' H' v u Q I r (g2 sd v δ σ' W H' Qd Q sat ro ap q kk)⟩
  refine ps_imp (ps_for hp hc hi hg' hb hs) fun DV σ H ⟨k, δ, W, D, hk, sat, q, ok⟩ => ⟨k, δ, W, _, by omega, sat, q, fun J items W1 H1 s1 st1 it hlen ⟨hL, q1⟩ => ?_⟩
  have cost : ∀ i, i ≤ items.length → k + n + i * m ≤ k + (n + L * m) := fun i hi => by
    have := Nat.mul_le_mul_right m (Nat.le_trans hi hL)
    omega
  refine ⟨fun i mm σ' H' => mm = items.length - i ∧ i ≤ items.length ∧ ∃ δ' W', Sat (C.at R (k + n + i * m)) δ' σ' W' H' ∧ BLe W1 W' ∧ forWP gt tb D (items.drop i) δ', ⟨items.length, by simp, Nat.zero_le _, δ, W1, by simpa using s1, BLe.refl W1, by simpa using q1⟩, ?_⟩
  rintro i mm σ' H' ⟨rfl, hi, δ', W', s', l', q'⟩
  obtain ⟨go, stop⟩ := it _ W' H' s'.ok l'
  by_cases hlt : i < items.length
  · have ex : items[i]? = some items[i] := List.getElem?_eq_getElem hlt
    obtain ⟨go1, go2⟩ := go i items[i] ex
    rw [drop_get ex] at q'
    have em : k + n + i * m + m = k + n + (i + 1) * m := by rw [Nat.succ_mul]; omega
    refine .inr ⟨go1, fun σ2 H2 => ∃ δ2 W2, Sat (C.at R (k + n + (i + 1) * m)) δ2 σ2 W2 H2 ∧ BLe W1 W2 ∧ forWP gt tb D (items.drop (i + 1)) δ2, fun σ2 H2 ⟨δ2, W2, s2, l2, q2⟩ => ⟨items.length - (i + 1), by omega, rfl, hlt, δ2, W2, s2, l2, q2⟩, fun v H2 y => ?_⟩
    obtain ⟨W2, w2, st2, r2⟩ := go2 v H2 y
    have s2 := s'.go w2 st2
    refine ⟨_, .d items[i], δ', W2, _, s2, r2, (fun _ _ z => nomatch z), q', fun δ3 σ3 s3 q3 => ?_⟩
    have l3 : BLe W1 W2 := l'.trans st2.b
    refine ⟨_, δ3, W2, _, ?_, s3, q3, ⟨fun δ4 σ4 W4 H4 s4 l4 q4 => ⟨δ4, W4, by rw [← em]; exact s4, l3.trans l4, q4⟩, ?_, fun δ4 σ4 W4 H4 s4 l4 q4 => ?_, fun δ4 σ4 W4 H4 s4 l4 q4 => ⟨δ4, W4, by rw [← em]; exact s4, l3.trans l4, q4⟩⟩⟩
    · have := cost (i + 1) hlt
      omega
    · rw [em]
      exact (ok.low mo (cost (i + 1) hlt)).rt
    · rw [em] at s4
      exact ok.nx δ4 σ4 W4 H4 (s4.up mo (cost (i + 1) hlt)) (BLe.trans st1.b (l3.trans l4)) q4
  · have e : i = items.length := by omega
    subst e
    rw [List.drop_length] at q'
    exact .inl ⟨stop, ok.nx δ' σ' W' H' (s'.up mo (cost _ (Nat.le_refl _))) (BLe.trans st1.b l') q'⟩
/-! ### comprehensions -/
def canGK (C : DC) (R : Rs) (vs : List Nat) (t : TGD) : L2.TG := fun v σ H QV => ∃ (k : Nat) (s : S) (δ : Sl) (W : Wd) (Q : Sl → Prop), Sat (C.at R k) δ σ W H ∧ SOk C.X.K W H s v ∧ Apart C δ s ∧ t s δ Q ∧ ∀ δ' σ', Sat (C.at R k) δ' σ' W H → L2.wipe σ' vs = L2.wipe σ vs → Q δ' → QV σ' H
def KTs (C : DC) (R : Rs) (n : Nat) (ifs : List Expr) (t : TB) : Prop := PTs C.X ifs (canB C R n t)
theorem kts_nil : KTs C R 0 [] tbYes := ⟨fun pins s σ H Q I ⟨k, δ, W, Qd, _, sat, q, kk⟩ => pts_nil.run pins s σ H Q I (kk true W H sat (Step.refl W H) q)⟩
theorem kts_one {t : TB} {c : Expr} (h : KT C R n c t) : KTs C R n [c] t := pts_one h
theorem kts_of {t : TB} {ifs : List Expr} (h : ∀ k, DTs (C.at R k) ifs t) : KTs C R 0 ifs t := ⟨fun pins s σ H Q I ⟨k, δ, W, Qd, _, sat, q, kk⟩ => by
  obtain ⟨tv, h1, h2⟩ := h k
  exact h1.run pins s σ H Q I (h2 δ σ W H Qd Q sat q kk)⟩
theorem lift_lcK {tt : TB} {vs : List Nat} {nt ne : Nat} (L : Nat) (up : RMono R) : ∀ σ H QV, canE C R (n + L * (nt + ne)) (tdLc (tiMax L wi) gt tt te vs) σ H QV → tLc (canI C R n wi) (canGK C R vs gt) (canB C R nt tt) (canK C R ne te) vs σ H QV := fun σ H QV ⟨k, δ, W, Q, hk, sat, q, kk⟩ => by
  refine ⟨k, δ, W, _, by omega, sat, q, fun J items W1 H1 s1 st1 it hlen ⟨hL, hz, q1⟩ => ?_⟩
  have cost : ∀ i, i ≤ items.length → k + n + i * (nt + ne) ≤ k + (n + L * (nt + ne)) := fun i hi => by
    have := Nat.mul_le_mul_right (nt + ne) (Nat.le_trans hi hL)
    omega
  have mo : ∀ i, k + n + i * (nt + ne) + (nt + ne) = k + n + (i + 1) * (nt + ne) := fun i => by rw [Nat.succ_mul]; omega
  intro Dn hD
  have f0 := s1.ok.free hD
  have hH : H Dn = none := by
    cases h : H Dn with
    | none => rfl
    | some o =>
      obtain ⟨o', h'⟩ := st1.th Dn o h
      rw [hD] at h'
      cases h'
  have stl := Step.lay (W := W1) (o := HO.lst []) hD
  have okl := s1.ok.lay (o := HO.lst []) f0.1 f0.2
  refine ⟨fun i m H' => m = items.length - i ∧ i ≤ items.length ∧ ∃ W' acc us, Sat (C.at R (k + n + i * (nt + ne))) δ σ W' H' ∧ Step W H W' H' ∧ BLe W1 W' ∧ H' Dn = some (.lst us) ∧ W'.b Dn = none ∧ W'.r Dn = none ∧ DpAll C.X.K W'.b us acc ∧ us.length ≤ i ∧ compWP gt tt te (wipeD δ vs) (fun acc => ∀ p, Q (.own p acc)) (items.drop i) acc,
    ⟨items.length, by simp, Nat.zero_le _, W1, [], [], by simpa using s1.go okl stl, st1.trans stl, BLe.refl W1, upd_same, f0.1, f0.2, .nil, Nat.zero_le _, by simpa using q1⟩, ?_⟩
  rintro i m H' ⟨rfl, hi, W', acc, us, s', st', l', hDn, nb, nr, rr, hul, q'⟩
  obtain ⟨go, stop⟩ := it _ W' H' s'.ok l'
  by_cases hlt : i < items.length
  · have ex : items[i]? = some items[i] := List.getElem?_eq_getElem hlt
    obtain ⟨go1, go2⟩ := go i items[i] ex
    rw [drop_get ex] at q'
    have c1 := cost (i + 1) hlt
    have e1 := mo i
    refine .inr ⟨go1, fun H2 => ∃ W2 acc2 us2, Sat (C.at R (k + n + (i + 1) * (nt + ne))) δ σ W2 H2 ∧ Step W H W2 H2 ∧ BLe W1 W2 ∧ H2 Dn = some (.lst us2) ∧ W2.b Dn = none ∧ W2.r Dn = none ∧ DpAll C.X.K W2.b us2 acc2 ∧ us2.length ≤ i + 1 ∧ compWP gt tt te (wipeD δ vs) (fun acc => ∀ p, Q (.own p acc)) (items.drop (i + 1)) acc2,
      fun H2 ⟨W2, acc2, us2, a1, a2, a3, a4, a5, a6, a7, a8, a9⟩ => ⟨items.length - (i + 1), by omega, rfl, hlt, W2, acc2, us2, a1, a2, a3, a4, a5, a6, a7, a8, a9⟩, fun v H2 y => ?_⟩
    obtain ⟨W2, w2, st2, r2⟩ := go2 v H2 y
    have s2 := s'.go w2 st2
    have keepD : ∀ {Wa : Wd} {Ha : Hp}, Step W' H' Wa Ha → Ha Dn = some (.lst us) ∧ Wa.b Dn = none ∧ Wa.r Dn = none := fun {Wa Ha} st => ⟨st.keep _ _ hDn nr, st.nb _ _ hDn nb, st.nr _ _ hDn nr⟩
    refine ⟨_, .d items[i], wipeD δ vs, W2, _, s2.wipe vs, r2, (fun _ _ z => nomatch z), q', fun δ3 σ3 s3 w3 q3 => ?_⟩
    refine ⟨by rw [w3]; exact wipe_wipe σ vs, ?_⟩
    have back : ∀ {j : Nat} {Wa : Wd} {Ha : Hp}, WOk (R j) Wa Ha → Step W' H' Wa Ha → Sat (C.at R j) δ σ Wa Ha := fun {j Wa Ha} w st => ⟨w, s'.step.trans st, fun i s e => by
      obtain ⟨v, e1, e2⟩ := s'.sl i s e
      exact ⟨v, e1, e2.step st⟩, s'.ap, s'.new, s'.len⟩
    refine ⟨_, δ3, W2, _, by omega, s3, q3, fun b W4 H4 s4 st4 q4 => ?_⟩
    cases b with
    | true =>
      refine ⟨_, δ3, W4, _, by omega, s4, q4, fun yv W5 H5 y s5 st5 r5 q5 => ?_⟩
      have st25 := (st2.trans st4).trans st5
      obtain ⟨d1, d2, d3⟩ := keepD st25
      have s5' : WOk (R (k + n + (i + 1) * (nt + ne))) W5 H5 := by
        rw [← e1, ← Nat.add_assoc]
        exact s5.ok
      exact ⟨us, d1, by omega, W5, acc ++ [y], us ++ [yv], (back s5' st25).relay (s1.entry hD) d2 d3 (s1.apart hD), (st'.trans st25).relay hH, l'.trans (BLe.trans st2.b (BLe.trans st4.b st5.b)), upd_same, d2, d3, dpAll_append (dpAll_mono st25.b rr) (.cons r5 .nil), by rw [List.length_append, List.length_singleton]; omega, q5⟩
    | false =>
      have st24 := st2.trans st4
      obtain ⟨d1, d2, d3⟩ := keepD st24
      have s4' : WOk (R (k + n + (i + 1) * (nt + ne))) W4 H4 := s4.ok.up up (by omega)
      exact ⟨W4, acc, us, back s4' st24, st'.trans st24, l'.trans (BLe.trans st2.b st4.b), d1, d2, d3, dpAll_mono st24.b rr, by omega, q4⟩
  · have e : i = items.length := by omega
    subst e
    rw [List.drop_length] at q'
    refine .inl ⟨stop, kk (.ref Dn) W' H' (.own Dn acc) (s'.up up (cost _ (Nat.le_refl _))) st' ⟨rfl, us, hDn, nb, nr, rr⟩ (fun z xs e => ?_) (q' Dn)⟩
    cases e
    exact hH
section
variable {tt : TB} {nt ne : Nat}
theorem gK_run {vs : List Nat} (hg : ∀ k (s : Shared) (H : Hp) (A : Addr) (cl : List (Str × Addr)) (fp : List Addr), DGc ((C.at R k).blk s H scope (compEnvC scope cl A C.X.env) fp) vs tg gt) (s : Shared) (H : Hp) (A : Addr) (cl : List (Str × Addr)) (fp : List Addr) :
    PG (C.blk s H scope (compEnvC scope cl A C.X.env) fp).X tg (canGK C R vs gt) := ⟨fun pins s' σ' H' v u Q I r ⟨k, sd, δ, W, Qd, sat, ro, ap, q, kk⟩ => by
  obtain ⟨tv, h1, h2⟩ := hg k s H A cl fp
  exact h1.run pins s' σ' H' v u Q I r (h2 sd v δ σ' W H' Qd Q sat.toBlk ro ap q fun δ2 σ2 s2 w2 q2 => kk δ2 σ2 s2.ofBlk w2 q2)⟩
theorem tK_run {s : Shared} {H : Hp} {sc2 : Scope} {env : Env} {fp : List Addr} (h : KTs (C.blk s H sc2 env fp) R nt ifs tt) : PTs (C.blk s H sc2 env fp).X ifs (canB C R nt tt) := ⟨fun pins s' σ' H' Q I ⟨k, δ, W, Qd, hk, sat, q, kk⟩ =>
  h.run pins s' σ' H' Q I ⟨k, δ, W, Qd, hk, sat.toBlk, q, fun b W2 H2 s2 st2 q2 => kk b W2 H2 (Sat.ofBlk (C := C.at R (k + nt)) s2) st2 q2⟩⟩
theorem eK_run {s : Shared} {H : Hp} {sc2 : Scope} {env : Env} {fp : List Addr} (h : KV (C.blk s H sc2 env fp) R ne elt te) : PE (C.blk s H sc2 env fp).X elt (canK C R ne te) := ⟨fun pins s' σ' H' Q I ⟨k, δ, W, Qd, hk, sat, q, kk⟩ =>
  PE.run h pins s' σ' H' Q I ⟨k, δ, W, Qd, hk, sat.toBlk, q, fun v W2 H2 x s2 st2 r2 q2 => kk v W2 H2 x (Sat.ofBlk (C := C.at R (k + ne)) s2) st2 r2 q2⟩⟩
theorem ke_lc (L : Nat) (up : RMono R) (hc : C.X.calm = true) (hN : C.X.N.Nodup) (hi : KI C R n tg iter wi) (ok : BlkOk C.X.N C.X.env.scope scope own)
    (hg : ∀ k (s : Shared) (H : Hp) (A : Addr) (cl : List (Str × Addr)) (fp : List Addr), DGc ((C.at R k).blk s H scope (compEnvC scope cl A C.X.env) fp) (own.map (·.2)) tg gt)
    (ht : ∀ (s : Shared) (H : Hp) (A : Addr) (cl : List (Str × Addr)) (fp : List Addr), KTs (C.blk s H scope (compEnvC scope cl A C.X.env) fp) R nt ifs tt)
    (he : ∀ (s : Shared) (H : Hp) (A : Addr) (cl : List (Str × Addr)) (fp : List Addr), KV (C.blk s H scope (compEnvC scope cl A C.X.env) fp) R ne elt te) (hs : ∀ x, foldedSetIterable iter C.X.env x = pure x := by intro _; rfl) :
    KE C R (n + L * (nt + ne)) (.ListComp elt [⟨tg, iter, ifs, 0⟩] scope pos) (tdLc (tiMax L wi) gt tt te (own.map (·.2))) :=
  pe_imp (pe_lc hc hN hi ok (gK_run hg) (fun s H A cl fp => tK_run (ht s H A cl fp)) (fun s H A cl fp => eK_run (he s H A cl fp)) hs) (lift_lcK L up)
theorem ks_setLc {i : Nat} {y : Str} {py spos : Pos} (L : Nat) (up : RMono R) (hc : C.X.calm = true) (hN : C.X.N.Nodup) (hy : C.X.N[i]? = some y) (hyl : C.X.env.scope.names.lookup y = some .local)
    (hsw : swapsWith (.ListComp elt [⟨tg, iter, ifs, 0⟩] scope pos) (some (.Name y py)) spos.line C.X.env = pure true) (hi : KI C R n tg iter wi) (ok : BlkOk C.X.N C.X.env.scope scope own)
    (hg : ∀ k (s : Shared) (H : Hp) (A : Addr) (cl : List (Str × Addr)) (fp : List Addr), DGc ((C.at R k).blk s H scope (compEnvC scope cl A C.X.env) fp) (own.map (·.2)) tg gt)
    (ht : ∀ (s : Shared) (H : Hp) (A : Addr) (cl : List (Str × Addr)) (fp : List Addr), KTs (C.blk s H scope (compEnvC scope cl A C.X.env) fp) R nt ifs tt)
    (he : ∀ (s : Shared) (H : Hp) (A : Addr) (cl : List (Str × Addr)) (fp : List Addr), KV (C.blk s H scope (compEnvC scope cl A C.X.env) fp) R ne elt te) (hs : ∀ x, foldedSetIterable iter C.X.env x = pure x := by intro _; rfl) :
    KS C R (n + L * (nt + ne)) (.Assign [.Name y py] (.ListComp elt [⟨tg, iter, ifs, 0⟩] scope pos) spos) (tsAsg (tdLc (tiMax L wi) gt tt te (own.map (·.2))) (tgName i)) :=
  ps_imp (ps_setLc hc hN hy hyl hsw hi ok (gK_run hg) (fun s H A cl fp => tK_run (ht s H A cl fp)) (fun s H A cl fp => eK_run (he s H A cl fp)) hs) fun DV σ H ⟨k, δ, W, D, hk, sat, q, ends⟩ =>
    lift_lcK L up σ H _ ⟨k, δ, W, _, hk, sat, q, fun v W1 H1 s s1 st1 r1 f1 q1 => ends.nx _ _ W1 H1 (Sat.set (C := C.at R _) s1 r1 fun p xs e => ⟨sat.entry (f1 p xs e), fun j ys _ e1 => sat.apart (f1 p xs e) j ys e1⟩) st1.b q1⟩
end
end
section
variable {C : DC} {R : Rs} {n m : Nat} {a b e : Expr} {es : List Expr} {ta tb : TV} {tr : TAr} {pos p : Pos}
theorem kv_ix (ha : KV C R n a ta) (hb : KV C R m b tb) (hs : PlainIx b := by exact fun _ _ => rfl) : KV C R (n + m) (.Subscript a b pos) (tv2 dIx ta tb) :=
  pe_imp (pe_ix ix_seq ha hb hs) fun σ H Q ⟨k, δ, W, Qd, hk, sat, q, kk⟩ => ⟨k, δ, W, _, by omega, sat, q, fun v W1 H1 x s1 st1 r1 q1 => ⟨k + n, δ, W1, _, by omega, s1, q1, fun u W2 H2 y s2 st2 r2 q2 =>
    dop_ix (C := C.at R (k + n + m)) v u x y W2 H2 Qd Q s2.ok (dp_mono st2.b r1) r2 q2 fun z W3 H3 dz w3 st3 r3 q3 => kk z W3 H3 dz (by rw [← Nat.add_assoc]; exact s2.go w3 st3) ((st1.trans st2).trans st3) r3 q3⟩⟩
theorem DC.Ok.at (ok : C.Ok) (h : ∀ x, C.Ed x → False) {k : Nat} : (C.at R k).Ok := ⟨ok.tk, fun x _ _ _ _ e => (h x e).elim⟩
/-- f(..) of a def whose promise holds where no repr is under way -/
theorem de_callAt {Ok : Around → Prop} {f : Addr} {fd : FuncData} {ps : List Str} {sp : SpD} {x : Str} (F : FnAt Ok C.X.prog C.X.w C.X.K C.X.mg C.X.base f fd ps (LS C.X.K C.ρ ps.length sp)) (ok : C.Ok) (oA : Ok C.X.A) (hm : C.X.mg x = some (.ref f)) (hk : PySem.W.keepIn C.X.K (.ref f) = true)
    (hb : Binds C.X.K fd ps []) (ha : DA C (e :: es) tr) (hg : Gl C.X x := by rfl) (hdb : (x == ("__debug__" : Str)) = false := by decide) (he : starEach (e :: es) C.X.env = (false, eval e C.X.env) :: starEach es C.X.env := by rfl) (hpl : (backTo pos (starEach es C.X.env)).any (·.1) = false := by rfl) :
    DE C (.Call (.Name x p) (e :: es) [] pos) (tdCall ps.length sp C.Ed tr) := by
  obtain ⟨tv, h1, h2⟩ := ha
  refine ⟨_, pe_callAt F oA hg hm hk hb (E := C.EX) (passes_call ok.tk fun _ _ _ _ z => z) h1 hdb he hpl, fun δ σ W H Q QV sat q k => h2 δ σ W H _ _ sat q fun vs W1 H1 ss s1 st1 r1 q1 => ?_⟩
  show LS C.X.K C.ρ ps.length sp (vs ++ []) H1 QV C.EX
  rw [List.append_nil]
  refine ⟨r1.len.trans q1.1, W1, ss, Q, C.Ed, s1.ok, r1, noOwn_ok q1.2.1, q1.2.2, fun v W2 H2 s w2 st2 r2 f2 q2 => ?_, fun y cls d W2 H2 w2 st2 r2 q2 => ?_⟩
  · refine k v W2 H2 s (s1.go w2 st2) (st1.trans st2) r2 (fun z xs e => ?_) q2
    cases h : H z with
    | none => rfl
    | some o =>
      obtain ⟨o', h'⟩ := st1.th z o h
      rw [f2 z xs e] at h'
      cases h'
  · exact ok.lk y cls d W2 H2 q2 w2 (s1.step.trans st2) r2
end
/-- THE RULE for such a def -/
theorem FunD.dataQ {P : Program} {w : World} {K : PySem.W.Frag} {mg : Str → Option Value} {base : Heap} {x qual : Str} {params : Arguments} {body : List Stmt} {scope : Scope} {kws : List (Str × V)} {f : Addr} {fd : FuncData} {ρ : Hp → Prop} {N ps : List Str} {k : Nat} {sp : SpD} (F : FunD K x qual params body scope [] kws f fd) (Sc : FnScope N ps scope) (hl : ps.length ≤ N.length)
    (hbody : ∀ (cdv : Value) (A : Around) (outer : List Env) (s : Shared) (H : Hp) (E : XK) (W : Wd) (Ed : XD → Prop), (ctx P w K mg base N qual scope f cdv A outer s H E ρ W Ed).Ok → Quiet k (A.deeper (envOfC qual scope s.heap.objs.size f cdv)) →
      ∃ t, DSs (ctx P w K mg base N qual scope f cdv A outer s H E ρ W Ed) body t ∧ ∀ ss Qd, ss.length = ps.length → sp ss Qd Ed → t { nx := fun _ => Qd (.d .none), rt := Qd } (startD N ss)) :
    FnAt (Quiet (k + 1)) P w K mg base f fd ps (LS K ρ ps.length sp) := by
  refine FunD.at' F Sc (fun A q => ⟨k, q.1⟩) (fun vs H Q E h => h.1) fun cdv A outer s H vs Q E hr h => ?_
  obtain ⟨hn, W, ss, Qd, Ed, w0, r, no, hsp, hq, he⟩ := h
  have ok : (ctx P w K mg base N qual scope f cdv A outer s H E ρ W Ed).Ok := ⟨takes_of rfl rfl rfl rfl, fun x cls d W' H' e w' st r => he x cls d W' H' w' st r e⟩
  obtain ⟨t, ⟨ts, g1, g2⟩, q⟩ := hbody cdv A outer s H E W Ed ok ⟨hr.1.deeper _, hr.2⟩
  refine ⟨ts, g1, g2 (startD N ss) (L2.start N vs) W H _ _ (sat_start w0 r no rfl rfl (by rw [hn]; exact hl)) (q ss Qd (by rw [← r.len]; exact hn) hsp) ⟨fun δ σ W' H' s' l q => ?_, fun s v W' H' w' st r f q => hq v W' H' s w' st r f q, fun _ _ _ _ _ _ z => z.elim, fun _ _ _ _ _ _ z => z.elim⟩⟩
  exact hq .non W' H' (.d .none) s'.ok s'.step Dp.non (fun _ _ z => nomatch z) q
/-- repr(x), where no repr is under way -/
def dRepr : List S → (S → Prop) → Prop := fun ss Q => ∃ x, ss = [.d x] ∧ shN 60 x ∧ x.showable = true ∧ x.shown.length ≤ sizeLine ∧ Q (.d (.str x.shown))
theorem cr_repr {X : Cx} {k : Nat} (q : Quiet k X.A) : CallR X (.builtin "repr") (fun xs H Q => ∃ v d, xs = [v] ∧ Dp X.K H v d ∧ shN 60 d ∧ d.showable = true ∧ d.shown.length ≤ sizeLine ∧ Q (.str d.shown) H) := by
  intro pins s σ H xs us Q I r h
  obtain ⟨v, d, rfl, hd, hs, hw, hz, q0⟩ := h
  obtain ⟨u, rfl, ru⟩ := r.one
  have hu := q.1.un
  obtain ⟨as, rd⟩ := Dp.reads I d v u hd ru
  have big : ∀ {a : Addr}, u = .ref a → wpAny (model X.prog X.w) X.A (call (.builtin "repr") [u]) (EP X pins σ Q) X.xe s := fun {a} e => by
    subst e
    exact PySem.repr_of_reads' rd hw (fun z => by rw [PyData.hasDict_of_canLay d hs.1] at z; cases z) q.2 (by have := hs.2; omega) (fun _ _ e => e) (fun h' u' tk hk => ⟨.str d.shown, H, I.kept hk, ⟨_, rfl⟩, q0⟩) hz
  cases hd with
  | non => cases ru; exact PySem.P.repr_of_none ⟨.str "None", H, I.tok _, ⟨_, rfl⟩, by simpa [PyData.shown] using q0⟩
  | bl b => cases ru; exact PySem.P.repr_of_bool ⟨.str (if b then "True" else "False"), H, I.tok _, ⟨_, rfl⟩, by simpa [PyData.shown] using q0⟩
  | int i =>
    obtain ⟨t, rfl⟩ := ru
    exact PySem.P.repr_of_int (by simpa [PyData.showable] using hw) ⟨.str (toString i), H, I.tok _, ⟨_, rfl⟩, by simpa [PyData.shown] using q0⟩
  | str x =>
    obtain ⟨t, rfl⟩ := ru
    exact PySem.P.repr_of_str ⟨.str (reprText x), H, I.tok _, ⟨_, rfl⟩, by simpa [PyData.shown] using q0⟩ (by simpa [PyData.shown] using hz)
  | lst _ _ => exact big ru
  | tup _ _ => exact big ru
theorem dcall_repr {C : DC} : DCall C (fun xs H Q => ∃ v d, xs = [v] ∧ Dp C.X.K H v d ∧ shN 60 d ∧ d.showable = true ∧ d.shown.length ≤ sizeLine ∧ Q (.str d.shown) H) dRepr := fun vs ss δ σ W H Q QV sat r ⟨x, e, h1, h2, h3, q⟩ k => by
  subst e
  obtain ⟨v, rfl, r1⟩ := all2_one r
  exact ⟨v, x, rfl, dp_mono sat.ok.bH r1, h1, h2, h3, fin_same sat (.str _) q k⟩
/-- == of two texts -/
def dEqS : D → D → (D → Prop) → Prop := fun x y Q => match x, y with
  | .str a, .str b => Q (.bool (decide (a = b)))
  | _, _ => False
theorem dop_eqS {C : DC} : DOp C rEq dEqS := fun x y dx dy W H Q QV w rx ry q k => by
  cases rx <;> cases ry <;> first | exact False.elim q | skip
  rename_i a b
  have e : decide (V.str a = V.str b) = decide (a = b) := by
    by_cases h : a = b
    · subst h; simp
    · rw [decide_eq_false h, decide_eq_false (fun z => h (by cases z; rfl))]
  refine ⟨rfl, ?_⟩
  rw [e]
  exact k _ W H _ w (Step.refl W H) (.bl _) q
theorem dv_eqS {C : DC} {a b : Expr} {ta tb : TV} {pos : Pos} (ha : DV C a ta) (hb : DV C b tb) : DV C (.Compare a [.Eq] [b] pos) (tv2 dEqS ta tb) := dv_cmp op_eq dop_eqS ha hb (nomark _)
theorem Quiet.mono {j k : Nat} {A : Around} (q : Quiet k A) (h : j ≤ k) : Quiet j A := ⟨q.1.mono h, q.2⟩
/-! ### frozen right behind -/
def tsFrzAft (i : Nat) (t : TSD) : TSD := fun D δ => t { D with nx := fun δ' => D.nx (frzAt i δ') } δ
section
variable {C : DC} {R : Rs} {n m : Nat} {st : Stmt} {t : TSD}
theorem ds_frzAft (i : Nat) (h : DS C st t) : DS C st (tsFrzAft i t) := by
  obtain ⟨ts, g1, g2⟩ := h
  refine ⟨ts, g1, fun δ σ W H D DV sat q ok => g2 δ σ W H _ DV sat q ⟨fun δ' σ' W' H' s l q' => ?_, ok.rt, ok.bk, ok.ct⟩⟩
  obtain ⟨W2, s2, l2⟩ := s.frzAt i
  exact ok.nx _ σ' W2 H' s2 (l.trans l2) q'
theorem ks_frzAft (i : Nat) (h : KS C R n st t) : KS C R n st (tsFrzAft i t) := ps_imp h fun DV σ H ⟨k, δ, W, D, hk, sat, q, ok⟩ => ⟨k, δ, W, _, hk, sat, q, ⟨fun δ' σ' W' H' s l q' => by
  obtain ⟨W2, s2, l2⟩ := s.frzAt i
  exact ok.nx _ σ' W2 H' s2 (l.trans l2) q', ok.rt, ok.bk, ok.ct⟩⟩
end
/-! ### defs -/
section
variable {P : Program} {w : World} {K : PySem.W.Frag} {mg : Str → Option Value} {base : Heap} {R : Rs}
theorem KSs.le {C : DC} {n m : Nat} {body : List Stmt} {t : TSD} (mo : RMono R) (h : KSs C R n body t) (hl : n ≤ m) : KSs C R m body t := pss_imp h fun DV σ H ⟨k, δ, W, D, hk, sat, q, ok⟩ => ⟨k, δ, W, D, by omega, sat, q, ok.low mo (by omega)⟩
theorem FunD.dataC {x qual : Str} {params : Arguments} {body : List Stmt} {scope : Scope} {dvs : List V} {kws : List (Str × V)} {f : Addr} {fd : FuncData} {N ps : List Str} {k m : Nat} {sp : SpD} (F : FunD K x qual params body scope dvs kws f fd) (Sc : FnScope N ps scope) (mo : RMono R) (hl : ps.length ≤ N.length)
    (hbody : ∀ (cdv : Value) (A : Around) (outer : List Env) (s : Shared) (H : Hp) (E : XK) (W : Wd), (ctx P w K mg base N qual scope f cdv A outer s H E (R 0) W (fun _ => False)).Ok → Room k (A.deeper (envOfC qual scope s.heap.objs.size f cdv)) →
      ∃ t n, KSs (ctx P w K mg base N qual scope f cdv A outer s H E (R 0) W (fun _ => False)) R n body t ∧ n ≤ m ∧ ∀ ss Qd, ss.length = ps.length → sp ss Qd (fun _ => False) → t { nx := fun _ => Qd (.d .none), rt := Qd } (startD N ss)) :
    FnC P w K mg base R m (k + 1) f fd ps sp := by
  refine F.ok Sc (fun vs H Q E h => h.1) fun cdv A outer s H vs Q E hr h => ?_
  obtain ⟨hn, j, W, ss, Qd, hj, w0, r, no, hsp, hq⟩ := h
  have ok : (ctx P w K mg base N qual scope f cdv A outer s H E (R 0) W (fun _ => False)).Ok := ⟨takes_of rfl rfl rfl rfl, fun x cls d W' H' e w' st r => e.elim⟩
  obtain ⟨t, n, g0, hn', q⟩ := hbody cdv A outer s H E W ok hr
  have g1 := KSs.le mo g0 hn'
  refine ⟨_, g1, j, startD N ss, W, _, hj, sat_start (C := (ctx P w K mg base N qual scope f cdv A outer s H E (R 0) W (fun _ => False)).at R j) w0 r no rfl rfl (by rw [hn]; exact hl), q ss Qd (by rw [← r.len]; exact hn) hsp, ⟨fun δ σ W' H' s' l q => ?_, fun s v W' H' w' st r f q => hq v W' H' s w' st r f q, fun _ _ _ _ _ _ z => z.elim, fun _ _ _ _ _ _ z => z.elim⟩⟩
  exact hq .non W' H' (.d .none) s'.ok s'.step Dp.non (fun _ _ z => nomatch z) q
/-- _law_mixed: one turn more -/
theorem mixed_ok {st g c : Addr} {cs : List Int} {x qual : Str} {params : Arguments} {scope : Scope} {dvs : List V} {kws : List (Str × V)} {f : Addr} {fd : FuncData} {N : List Str} {k : Nat} {sp : SpD} {s1 : Stmt} {rest : List Stmt} {k1 : Nat} {p1 p2 p3 p4 p5 : Pos}
    (F : FunD K x qual params (s1 :: .Assign [.Subscript (.Name "state" p1) (.Constant (.str "turn") k1 p2) p3] (.Name "turn" p4) p5 :: rest) scope dvs kws f fd) (Sc : FnScope N ["state"] scope) (hN0 : N[0]? = some ("state" : Str)) (hv0 : Vis scope "state") (hN : N[1]? = some ("turn" : Str)) (hv : Vis scope "turn")
    (hsw : ∀ cdv A outer s H E, swapsWith (.Name "turn" p4) (some (.Subscript (.Name "state" p1) (.Constant (.str "turn") k1 p2) p3)) p5.line (cxOf (L2.CX P w) P w K mg base N qual scope f cdv A outer s H E).env = pure false)
    (hbody : ∀ (cdv : Value) (A : Around) (outer : List Env) (s : Shared) (H : Hp) (E : XK) (W : Wd) (j : Nat), j + 1 ≤ LIM → (ctx P w K mg base N qual scope f cdv A outer s H E (StK st g c cs j) W (fun _ => False)).Ok → (ctx P w K mg base N qual scope f cdv A outer s H E (StK st g c cs (j + 1)) W (fun _ => False)).Ok → Room k (A.deeper (envOfC qual scope s.heap.objs.size f cdv)) →
      ∃ t1 t2, DS (ctx P w K mg base N qual scope f cdv A outer s H E (StK st g c cs j) W (fun _ => False)) s1 t1 ∧ DSs (ctx P w K mg base N qual scope f cdv A outer s H E (StK st g c cs (j + 1)) W (fun _ => False)) rest t2 ∧
      ∀ ss Qd, ss.length = 1 → sp ss Qd (fun _ => False) → t1 { nx := fun δ => δ[0]? = some (some (.v (.ref st))) ∧ ∃ n : Nat, δ[1]? = some (some (.d (.int (n : Nat)))) ∧ n ≤ j + 1 ∧ t2 { nx := fun _ => Qd (.d .none), rt := Qd } δ, rt := fun _ => False } (startD N ss)) :
    FnC P w K mg base (StK st g c cs) 1 (k + 1) f fd ["state"] sp := by
  refine F.ok Sc (fun vs H Q E h => h.1) fun cdv A outer s H vs Q E hr h => ?_
  obtain ⟨hn, j, W, ss, Qd, hj, w0, r, no, hsp, hq⟩ := h
  have ok : ∀ i, (ctx P w K mg base N qual scope f cdv A outer s H E (StK st g c cs i) W (fun _ => False)).Ok := fun i => ⟨takes_of rfl rfl rfl rfl, fun x cls d W' H' e w' st r => e.elim⟩
  obtain ⟨t1, t2, ⟨u1, g1, g2⟩, ⟨u2, h1, h2⟩, q⟩ := hbody cdv A outer s H E W j hj (ok j) (ok (j + 1)) hr
  have hl : vs.length ≤ N.length := by rw [hn]; have := (List.getElem?_eq_some_iff.mp hN).1; show 1 ≤ N.length; omega
  refine ⟨_, pss_cons g1 (pss_cons (ps_dput (by have := hr.un; show (A.deeper (envOfC qual scope s.heap.objs.size f cdv)).units + 1 < cLine; omega) (pe_var (i := 0) hN0 hv0 (by decide) (by decide)) pe_str (pe_var (i := 1) hN hv (by decide) (by decide)) (hsw cdv A outer s H E)) h1), ?_⟩
  refine g2 _ _ _ _ _ _ (sat_start (C := ctx P w K mg base N qual scope f cdv A outer s H E (StK st g c cs j) W (fun _ => False)) w0 r no rfl rfl hl) (q ss Qd (by rw [← r.len]; exact hn) hsp) ⟨fun δ σ W1 H1 s1 _ ⟨e0, n, e1, hn1, q1⟩ => ?_, fun _ _ _ _ _ _ _ _ z => z.elim, fun _ _ _ _ _ _ z => z.elim, fun _ _ _ _ _ _ z => z.elim⟩
  obtain ⟨v, f1, f2⟩ := s1.sl 1 _ e1
  have f2 : Dp K W1.b v (.int (n : Nat)) := f2
  cases f2
  obtain ⟨W2, H2, hp, w2, st2⟩ := put_turn s1.ok hn1
  have w2' : WOk (StK st g c cs (j + 1)) W2 H2 := w2
  refine ⟨_, f1, _, s1.raw e0, st, H2, rfl, hp, ?_⟩
  have s2 : Sat (ctx P w K mg base N qual scope f cdv A outer s H E (StK st g c cs (j + 1)) W (fun _ => False)) δ σ W2 H2 := ⟨w2', s1.step.trans st2, fun i s e => by
    obtain ⟨v, e1, e2⟩ := s1.sl i s e
    exact ⟨v, e1, e2.step st2⟩, s1.ap, s1.new, s1.len⟩
  exact h2 δ σ W2 H2 _ _ s2 q1 ⟨fun δ σ W' H' s' l q => hq .non W' H' (.d .none) s'.ok s'.step Dp.non (fun _ _ z => nomatch z) q, fun s v W' H' w' st r f q => hq v W' H' s w' st r f q, fun _ _ _ _ _ _ z => z.elim, fun _ _ _ _ _ _ z => z.elim⟩
end
end DL

-- part DLw
/-! the law's own helpers: draws, plain values, sameness -/
namespace DL
open PySem PySem.Spec PyProof.Rows L2
local macro_rules | `(tactic| walk_at "dl") => `(tactic| simp only [tsSeq, tsAsg, tsIf, tsNext, tsRet, tsRetN, tsRetOwn, tsDrop, tsNever, tsPar, tsAug, toD, frz, tdB, tdCall, tvVar, tdVar, tvC, tv2, tvTup, tdLst, tvIf, tvAnd, tvOr, tvNot, tbOf, tbAnd, tbOr, tbNot, tgName, tgNil, tgCons, tgTup, arCons, arNil, dI, dAdd, dSub, dMul, dDiv, dDivA, dMod, dPow, dNeg, dCmp, dLt, dLe, dGt, dGe, dEq, dNe, dIsN, dNotN, dIx, dGcd, dAbs, dMax2, dMin2, dInt1, allD, noOwn, startD, fr, tvSt, tvTurn, tvPop, tsStPut, tiCells, tvIsi, tvIsi2, dRepr, dEqS,
  List.map_cons, List.map_nil, List.length_cons, List.length_nil, Nat.reduceAdd, Nat.reduceSub, Nat.zero_add, List.replicate, List.cons_append, List.nil_append, List.getElem?_cons_zero, List.getElem?_cons_succ, List.set_cons_zero, List.set_cons_succ, Option.some.injEq, S.d.injEq, S.v.injEq, PyData.int.injEq, PyData.bool.injEq, PyData.tuple.injEq, PyData.list.injEq, List.cons.injEq, exists_eq_left', exists_eq_left, exists_eq_right, true_and, and_true, Option.map_some, atI_0, atI_1, sL1, sL2, sL3, sL4, Option.map, eqv_int, shaped_int, dv_self, and_assoc, exists_and_left, decide_eq_true_eq])
/-! ### draws -/
def sp__law_mixed (st : Addr) : SpD := fun ss Q _ => ss = [.v (.ref st)] ∧ ∀ n : Int, Q (.d (.int n))
def sp__law_draw (st : Addr) : SpD := fun ss Q _ => ∃ m : Int, ss = [.v (.ref st), .d (.int m)] ∧ 0 < m ∧ Bd 8999 m ∧ ∀ n : Int, 0 ≤ n → n < m → Q (.d (.int n))
def sp__law_pick (st : Addr) : SpD := fun ss Q _ => ∃ (x : D) (xs : List D), ss = [.v (.ref st), .d x] ∧ seqD x = some xs ∧ xs ≠ [] ∧ xs.length ≤ 2 ^ 60 ∧ ∀ y ∈ xs, Q (.d y)
def r1__law_mixed (kt : Nat) (st : Addr) : TSD := tsPar 1 2 (toD (tv2 dAdd (tvTurn kt st 0) (tvC (.int 1)))) (toD (tvC (.int 0)))
def rb__law_mixed_0 (st : Addr) (cs : List Int) (Ed : XD → Prop) : TSD := tsAsg (toD (tv2 dMod (frz (tdB dInt1 (arCons (toD (tv2 dAdd (tv2 dAdd (tv2 dMul (tvVar 4) (tvC (.int 48271))) (tvVar 5)) (tvVar 1))) (arNil)))) (tvVar 3))) (tgName 4)
def rb__law_mixed_1 (st : Addr) (cs : List Int) (Ed : XD → Prop) : TSD := tsSeq (tsAsg (toD (tv2 dAdd (tv2 dMul (tvC (.int 69621)) (tvVar 1)) (tv2 dDiv (tvVar 3) (tvC (.int 41))))) (tgName 4)) (tsSeq (tsFor (tiCells st cs 0) (tgName 5) (rb__law_mixed_0 st cs Ed)) (tsAsg (toD (tv2 dAdd (tv2 dMul (tvVar 2) (tvC (.int 2147483659))) (tv2 dMod (frz (tdB dInt1 (arCons (toD (tv2 dPow (tvVar 4) (tvC (.int 5)))) (arNil)))) (tvVar 3)))) (tgName 2)))
def r__law_mixed (st : Addr) (cs : List Int) (Ed : XD → Prop) : TSD := tsSeq (tsFor (tiSeq (frz (tdLst (arCons (toD (tvC (.int 2147483269))) (arCons (toD (tvC (.int 2147483249))) (arCons (toD (tvC (.int 2147483237))) (arCons (toD (tvC (.int 2147483179))) (arNil)))))))) (tgName 3) (rb__law_mixed_1 st cs Ed)) (tsRet (toD (tvVar 2)))
theorem mixed_in {st : Addr} {cs : List Int} {Ed : XD → Prop} {E : EndsD} {x0 : Option S} {t f p : Int} (hp : 0 < p) (hq : p < 2 ^ 32) : ∀ (zs : List Int) (b : Int) (x5 : Option S), (∀ b x5, 0 ≤ b → b < 2 ^ 60 → E.nx [x0, some (.d (.int t)), some (.d (.int f)), some (.d (.int p)), some (.d (.int b)), x5]) →
    (zs = [] → 0 ≤ b ∧ b < 2 ^ 60) → forWP (tgName 5) (rb__law_mixed_0 st cs Ed) E (zs.map PyData.int) [x0, some (.d (.int t)), some (.d (.int f)), some (.d (.int p)), some (.d (.int b)), x5]
  | [], b, x5, q, hb => by
    rw [List.map_nil, forWP_end]
    exact q b x5 (hb rfl).1 (hb rfl).2
  | z :: zs, b, x5, q, hb => by
    rw [List.map_cons, forWP_step]
    generalize eT : forWP (tgName 5) (rb__law_mixed_0 st cs Ed) E (zs.map PyData.int) = T
    unfold rb__law_mixed_0
    walk_at "dl"
    subst eT
    refine ⟨IntMulOk.of_right (by decide), hp, ?_⟩
    refine mixed_in hp hq zs _ _ q fun _ => ⟨Int.emod_nonneg _ (by omega), Int.lt_trans (Int.emod_lt_of_pos _ hp) (Int.lt_trans hq (by decide))⟩
theorem mixed_out {st : Addr} {cs : List Int} {Ed : XD → Prop} {E : EndsD} {t : Nat} (ht : t ≤ LIM) : ∀ (ps : List Int) (f : Int) (x3 x4 x5 : Option S), (∀ p ∈ ps, 2 ^ 31 - 1000 < p ∧ p < 2 ^ 32) → (∀ f x3 x4 x5, E.nx [some (.v (.ref st)), some (.d (.int (t : Nat))), some (.d (.int f)), x3, x4, x5]) →
    forWP (tgName 3) (rb__law_mixed_1 st cs Ed) E (ps.map PyData.int) [some (.v (.ref st)), some (.d (.int (t : Nat))), some (.d (.int f)), x3, x4, x5]
  | [], f, x3, x4, x5, _, q => by
    rw [List.map_nil, forWP_end]
    exact q f x3 x4 x5
  | p :: ps, f, x3, x4, x5, hp, q => by
    rw [List.map_cons, forWP_step]
    generalize eT : forWP (tgName 3) (rb__law_mixed_1 st cs Ed) E (ps.map PyData.int) = T
    have h0 := hp p (List.mem_cons_self ..)
    have ht' : t ≤ 2 ^ 40 := ht
    unfold rb__law_mixed_1 tsFor
    walk_at "dl"
    refine ⟨IntMulOk.of_left (by decide), ⟨by decide, by decide⟩, ?_⟩
    have hq : 0 ≤ p / 41 ∧ p / 41 < 2 ^ 32 := by omega
    generalize p / 41 = b at hq
    refine mixed_in (by omega) (by omega) cs _ _ (fun b x5 h1 h2 => ?_) fun e => ?_
    · walk_at "dl"
      subst eT
      refine ⟨IntMulOk.of_right (by decide), ⟨by decide, by decide, ?_⟩, by omega, ?_⟩
      · have : (2 : Int) ^ 60 = 1152921504606846976 := by decide
        have : (2 : Nat) ^ 64 = 18446744073709551616 := by decide
        omega
      · exact mixed_out ht ps _ _ _ _ (fun z hz => hp z (List.mem_cons_of_mem _ hz)) q
    · have : (2 : Int) ^ 60 = 1152921504606846976 := by decide
      have : (2 : Int) ^ 32 = 4294967296 := by decide
      have : (2 : Nat) ^ 40 = 1099511627776 := by decide
      omega
theorem pu__law_mixed {st : Addr} {cs : List Int} {ss : List S} {Qd : S → Prop} {kt : Nat} (hk : kt + 1 ≤ LIM) (h : sp__law_mixed st ss Qd (fun _ => False)) : r1__law_mixed kt st { nx := fun δ => δ[0]? = some (some (.v (.ref st))) ∧ ∃ n : Nat, δ[1]? = some (some (.d (.int (n : Nat)))) ∧ n ≤ kt + 1 ∧ r__law_mixed st cs (fun _ => False) { nx := fun _ => Qd (.d .none), rt := Qd } δ, rt := fun _ => False } (startD ["state", "turn", "found", "prime", "blend", "cell"] ss) := by
  obtain ⟨rfl, q⟩ := h
  unfold r1__law_mixed
  walk_at "dl"
  intro n hn
  refine ⟨n + 1, by simp, by omega, ?_⟩
  unfold r__law_mixed tsFor tiSeq
  walk_at "dl"
  intro p
  refine ⟨_, rfl, by simp, ?_⟩
  refine mixed_out (t := n + 1) (by omega) [2147483269, 2147483249, 2147483237, 2147483179] 0 _ _ _ (by decide) fun f x3 x4 x5 => ?_
  walk_at "dl"
  exact q f
def r__law_draw (st : Addr) (cs : List Int) (Ed : XD → Prop) : TSD := tsSeq (tsIf (tbOf (tv2 dEq (tvSt st 0) (tvC (.int 0)))) (tsStPut st 0 (tvPop st 0 (frz (tdCall 1 (sp__law_mixed st) (fun _ => False) (arCons (tdVar 0) (arNil)))))) (tsNext)) (tsSeq (tsAsg (toD (tv2 dMod (frz (tdB dInt1 (arCons (toD (tvSt st 0)) (arNil)))) (tvVar 1))) (tgName 2)) (tsSeq (tsStPut st 0 (tv2 dDiv (tvSt st 0) (tvVar 1))) (tsRet (toD (tvVar 2)))))
theorem pu__law_draw {st : Addr} {cs : List Int} {ss : List S} {Qd : S → Prop} (h : sp__law_draw st ss Qd (fun _ => False)) : r__law_draw st cs (fun _ => False) { nx := fun _ => Qd (.d .none), rt := Qd } (startD ["state", "room", "found"] ss) := by
  obtain ⟨m, rfl, hm, hb, q⟩ := h
  unfold r__law_draw sp__law_mixed
  walk_at "dl"
  have e : ∀ n : Int, 0 < m ∧ ∀ (n_1 : Int), CDivW n_1 m ∧ Qd (S.d (PyData.int (n % m))) := fun n => ⟨hm, fun _ => ⟨⟨hm, Nat.lt_trans (hb.log (by decide)) (by decide)⟩, q _ (Int.emod_nonneg _ (by omega)) (Int.emod_lt_of_pos _ hm)⟩⟩
  intro n
  split
  · exact ⟨fun _ => e, fun _ => e⟩
  · exact e
def r__law_pick (st : Addr) (cs : List Int) (Ed : XD → Prop) : TSD := tsRet (toD (tv2 dIx (tvVar 1) (frz (tdCall 2 (sp__law_draw st) (fun _ => False) (arCons (tdVar 0) (arCons (toD (frz (tdB dLen (arCons (toD (tvVar 1)) (arNil))))) (arNil)))))))
theorem atI_mem {α : Type} {xs : List α} {i : Int} (h0 : 0 ≤ i) (h : i < xs.length) : ∃ x, atI xs i = some x ∧ x ∈ xs := by
  have hi : i.toNat < xs.length := by omega
  refine ⟨xs[i.toNat], ?_, List.getElem_mem hi⟩
  have e : ixN xs.length i = some i.toNat := by
    unfold ixN
    rw [if_pos h0, if_pos (by omega)]
  unfold atI
  rw [e]
  exact List.getElem?_eq_getElem hi
theorem atI_get {α : Type} {xs : List α} {i : Nat} {x : α} (h : xs[i]? = some x) : atI xs (i : Int) = some x := by
  have hi := (List.getElem?_eq_some_iff.mp h).1
  have e : ixN xs.length (i : Int) = some i := by
    unfold ixN
    rw [if_pos (by omega), if_pos (by omega)]
    rfl
  unfold atI
  rw [e]
  exact h
theorem pu__law_pick {st : Addr} {cs : List Int} {ss : List S} {Qd : S → Prop} (h : sp__law_pick st ss Qd (fun _ => False)) : r__law_pick st cs (fun _ => False) { nx := fun _ => Qd (.d .none), rt := Qd } (startD ["state", "some"] ss) := by
  obtain ⟨x, xs, rfl, e, hne, hl, q⟩ := h
  unfold r__law_pick sp__law_draw dLen
  have hpos : 0 < xs.length := List.length_pos_iff.mpr hne
  have hb : Bd 8999 ((xs.length : Nat) : Int) := by
    have h1 : Bd 61 ((xs.length : Nat) : Int) := by
      unfold Bd
      have : (2 : Nat) ^ 60 < 2 ^ 61 := by decide
      omega
    exact h1.mono (by decide)
  cases x with
  | list ys =>
    cases e
    walk_at "dl"
    refine ⟨_, rfl, by omega, hb, fun n h1 h2 => ?_⟩
    obtain ⟨y, e1, e2⟩ := atI_mem h1 h2
    exact ⟨y, e1, q y e2⟩
  | tuple ys =>
    cases e
    walk_at "dl"
    refine ⟨_, rfl, by omega, hb, fun n h1 h2 => ?_⟩
    obtain ⟨y, e1, e2⟩ := atI_mem h1 h2
    exact ⟨y, e1, q y e2⟩
  | _ => cases e
/-! ### plain, same -/
/-- plain data, lists no longer than a line, no deeper than n -/
def okD : Nat → D → Prop
  | 0, _ => False
  | _ + 1, .none => True
  | _ + 1, .bool _ => True
  | _ + 1, .int _ => True
  | _ + 1, .str s => PyData.canLay0 (.str s) = true
  | n + 1, .list xs => xs.length < sizeLine ∧ ∀ y ∈ xs, okD n y
  | n + 1, .tuple xs => xs.length < sizeLine ∧ ∀ y ∈ xs, okD n y
  | _ + 1, .dict _ => False
theorem okD.sh : ∀ {n : Nat} {x : D}, okD n x → shN n x
  | 0, _, h => h.elim
  | n + 1, .none, _ => ⟨rfl, by rw [PyData.depth]; omega⟩
  | n + 1, .bool _, _ => ⟨rfl, by rw [PyData.depth]; omega⟩
  | n + 1, .int _, _ => ⟨rfl, by rw [PyData.depth]; omega⟩
  | n + 1, .str s, h => ⟨h, by rw [PyData.depth]; omega⟩
  | n + 1, .list xs, h => shN_list fun y hy => (h.2 y hy).sh
  | n + 1, .tuple xs, h => shN_tup fun y hy => (h.2 y hy).sh
  | _ + 1, .dict _, h => h.elim
theorem okD.mono : ∀ {m n : Nat} {x : D}, okD m x → m ≤ n → okD n x
  | 0, _, _, h, _ => h.elim
  | m + 1, 0, _, _, l => by omega
  | m + 1, n + 1, .none, _, _ => trivial
  | m + 1, n + 1, .bool _, _, _ => trivial
  | m + 1, n + 1, .int _, _, _ => trivial
  | m + 1, n + 1, .str s, h, _ => h
  | m + 1, n + 1, .list xs, h, l => ⟨h.1, fun y hy => (h.2 y hy).mono (by omega)⟩
  | m + 1, n + 1, .tuple xs, h, l => ⟨h.1, fun y hy => (h.2 y hy).mono (by omega)⟩
  | m + 1, n + 1, .dict _, h, _ => h.elim
def sp__law_plain (n : Nat) : SpD := fun ss Q _ => ∃ x, ss = [.d x] ∧ okD n x ∧ Q (.d (.bool true))
def sp__law_is : SpD := fun ss Q _ => ∃ x, ss = [.d x, .d x] ∧ okD 6 x ∧ x.showable = true ∧ x.shown.length ≤ sizeLine ∧ Q (.d (.bool true))
def r__law_plain (n : Nat) (Ed : XD → Prop) : TSD := tsSeq (tsIf (tbOf (tvIsi2 "list" "tuple" (tvVar 0))) (tsRet (toD (tv2 dEq (frz (tdLc (tiSeq (tvVar 0)) (tgName 1) (tbNot (tbOf (frz (tdCall 1 (sp__law_plain n) (fun _ => False) (arCons (toD (tvVar 1)) (arNil)))))) (tvC (.int 1)) [1])) (frz (tdLst (arNil)))))) (tsNext)) (tsSeq (tsIf (tbOf (tvIsi "dict" (tvVar 0))) (tsNever) (tsNext)) (tsRet (toD (tvOr (tv2 dIsN (tvVar 0) (tvC .none)) (tvIsi2 "int" "str" (tvVar 0))))))
theorem plain_comp {n : Nat} {Q : List D → Prop} {v1 : Option S} : ∀ (xs : List D), (∀ y ∈ xs, okD n y) → Q [] → ∀ {x0 : Option S}, compWP (tgName 1) (tbNot (tbOf (frz (tdCall 1 (sp__law_plain n) (fun _ => False) (arCons (toD (tvVar 1)) (arNil)))))) (tvC (.int 1)) [x0, v1] Q xs []
  | [], _, q, _ => q
  | x :: xs, h, q, x0 => by
    have hx := h x (List.mem_cons_self ..)
    have ih := plain_comp (v1 := v1) xs (fun y hy => h y (List.mem_cons_of_mem _ hy)) q (x0 := x0)
    unfold compWP
    generalize compWP (tgName 1) (tbNot (tbOf (frz (tdCall 1 (sp__law_plain n) (fun _ => False) (arCons (toD (tvVar 1)) (arNil)))))) (tvC (.int 1)) [x0, v1] Q xs [] = T at ih ⊢
    unfold sp__law_plain
    walk_at "dl"
    exact ⟨hx, by simpa using ih⟩
theorem pu__law_plain {n : Nat} {ss : List S} {Qd : S → Prop} {Ed : XD → Prop} (h : sp__law_plain (n + 1) ss Qd Ed) : r__law_plain n Ed { nx := fun _ => Qd (.d .none), rt := Qd } (startD ["value", "one"] ss) := by
  obtain ⟨x, rfl, hx, q⟩ := h
  have e0 : PyData.eqv (.list []) (.list []) = true := rfl
  have flat : ∀ {x : D}, (isD x "list" || isD x "tuple") = false → isD x "dict" = false → (isNone x = true ∨ (isD x "int" || isD x "str") = true) → r__law_plain n Ed { nx := fun _ => Qd (.d .none), rt := Qd } (startD ["value", "one"] [.d x]) := fun {x} h1 h2 h3 => by
    unfold r__law_plain
    walk_at "dl"
    rw [h1, h2]
    simp only [if_false, Bool.false_eq_true]
    split
    · exact q
    · rcases h3 with h3 | h3
      · rename_i h4; exact absurd h3 h4
      · rw [h3]; exact q
  have deep : ∀ {x : D} {xs : List D}, (isD x "list" || isD x "tuple") = true → itemsD x = some xs → xs.length < sizeLine → (∀ y ∈ xs, okD n y) → r__law_plain n Ed { nx := fun _ => Qd (.d .none), rt := Qd } (startD ["value", "one"] [.d x]) := fun {x xs} h1 h2 h3 h4 => by
    unfold r__law_plain
    walk_at "dl"
    rw [h1]
    simp only [if_true]
    unfold tdLc tiSeq
    walk_at "dl"
    refine ⟨xs, h2, by have : sizeLine ≤ 2 ^ 62 := by decide
                       omega, h3, ?_⟩
    exact plain_comp xs h4 (fun p => ⟨Nat.zero_le _, fun p2 => ⟨rfl, rfl, by rw [e0]; exact q⟩⟩)
  cases x with
  | none => exact flat rfl rfl (.inl rfl)
  | bool b => exact flat rfl rfl (.inr rfl)
  | int i => exact flat rfl rfl (.inr rfl)
  | str s => exact flat rfl rfl (.inr rfl)
  | list xs => exact deep rfl rfl hx.1 hx.2
  | tuple xs => exact deep rfl rfl hx.1 hx.2
  | dict _ => exact hx.elim
def r__law_is (Ed : XD → Prop) : TSD := tsRet (toD (tvAnd (frz (tdCall 1 (sp__law_plain 6) Ed (arCons (toD (tvVar 0)) (arNil)))) (tvAnd (tv2 dEq (tvVar 0) (tvVar 1)) (tvAnd (tv2 dEq (tvVar 1) (tvVar 0)) (tv2 dEqS (frz (tdB dRepr (arCons (toD (tvVar 0)) (arNil)))) (frz (tdB dRepr (arCons (toD (tvVar 1)) (arNil)))))))))
theorem pu__law_is {ss : List S} {Qd : S → Prop} {Ed : XD → Prop} (h : sp__law_is ss Qd Ed) : r__law_is Ed { nx := fun _ => Qd (.d .none), rt := Qd } (startD ["found", "due"] ss) := by
  obtain ⟨x, rfl, hx, h1, h2, q⟩ := h
  have sh := hx.sh
  have s1 : SeqAt.shaped x = true := sh.shaped (by decide)
  have e1 : PyData.eqv x x = true := SeqAt.eqv_refl x sh.1
  unfold r__law_is sp__law_plain
  walk_at "dl"
  simp only [e1, if_true, s1, true_and, h1, h2, decide_true]
  exact ⟨hx, sh.mono (by decide), sh.mono (by decide), q⟩
end DL

-- part DLv
/-! dicts that stand for good: dict(list of pairs), d[k] -/
namespace DL
open PySem PySem.Spec PyProof.Rows L2
def keyD : Key → D
  | .inl i => .int i
  | .inr s => .str s
theorem key_dp {K : PySem.W.Frag} {H : Hp} {v : V} {k : Key} (h : Dp K H v (keyD k)) : v = kV k := by
  cases k with
  | inl i => cases h; rfl
  | inr s => cases h; rfl
/-- the value at a key -/
def look (kvs : List (Key × D)) (k : Key) : Option D := (kvs.find? fun p => decide (p.1 = k)).map (·.2)
theorem look_cons {k k' : Key} {x : D} {r : List (Key × D)} : look ((k', x) :: r) k = if k' = k then some x else look r k := by
  unfold look
  rw [List.find?_cons]
  by_cases h : k' = k
  · simp [h]
  · simp [h]
theorem kvAll_look {K : PySem.W.Frag} {H : Hp} {k : Key} {x : D} : ∀ {vs : List (Key × V)} {kvs : List (Key × D)}, KvAll K H vs kvs → look kvs k = some x → ∃ v, valV vs k = some v ∧ Dp K H v x
  | _, _, .nil, h => by cases h
  | _, _, .cons (k := k') (v := v') h r, e => by
    rw [look_cons] at e
    by_cases hk : k' = k
    · rw [if_pos hk] at e
      cases e
      exact ⟨v', valV_pos hk, h⟩
    · rw [if_neg hk] at e
      obtain ⟨v, e1, e2⟩ := kvAll_look r e
      exact ⟨v, by rw [valV_neg hk]; exact e1, e2⟩
theorem mergeK_nodup : ∀ (kvs acc : List (Key × V)), (acc ++ kvs).Pairwise (fun p q => p.1 ≠ q.1) → mergeK acc kvs = acc ++ kvs
  | [], acc, _ => by simp [mergeK]
  | (k, v) :: r, acc, h => by
    have hn : valV acc k = none := by
      cases e : valV acc k with
      | none => rfl
      | some u =>
        exfalso
        have hm := valV_in e
        obtain ⟨⟨k2, v2⟩, hp, e2⟩ := List.mem_map.mp hm
        have e2 : k2 = k := e2
        subst e2
        have := (List.pairwise_append.mp h).2.2 _ hp _ (List.mem_cons_self ..)
        exact this rfl
    show mergeK (putK acc k v) r = _
    rw [putK_new v hn]
    rw [mergeK_nodup r (acc ++ [(k, v)]) (by simpa using h)]
    simp
theorem pairs_dp {K : PySem.W.Frag} {H : Hp} : ∀ {kvs : List (Key × D)} {vs : List V}, DpAll K H vs (kvs.map fun kv => .tuple [keyD kv.1, kv.2]) → ∃ (ps : List Addr) (kws : List (Key × V)), vs = ps.map V.ref ∧ Paired (fun p kv => SqT K H p [kV kv.1, kv.2]) ps kws ∧ KvAll K H kws kvs ∧ kws.map (·.1) = kvs.map (·.1)
  | [], _, .nil => ⟨[], [], rfl, .nil, .nil, rfl⟩
  | (k, x) :: r, _, .cons h t => by
    obtain ⟨a, us, rfl, h1, h2⟩ := dp_tup_inv h
    cases h2 with
    | cons d1 d2 =>
      cases d2 with
      | cons d3 d4 =>
        cases d4
        have e := key_dp d1
        subst e
        obtain ⟨ps, kws, rfl, i2, i3, i4⟩ := pairs_dp t
        exact ⟨a :: ps, (k, _) :: kws, rfl, .cons h1 i2, .cons d3 i3, by simp [i4]⟩
def dDictP : List S → (S → Prop) → Prop := fun ss Q => ∃ kvs : List (Key × D), ss = [.d (.list (kvs.map fun kv => .tuple [keyD kv.1, kv.2]))] ∧ (kvs.map (·.1)).Nodup ∧ Q (.dic kvs)
theorem sqT_all {K : PySem.W.Frag} {H H' : Hp} (e : ∀ b o, H b = some o → H' b = some o) : ∀ {ps : List Addr} {kws : List (Key × V)}, Paired (fun p kv => SqT K H p [kV kv.1, kv.2]) ps kws → Paired (fun p kv => SqT K H' p [kV kv.1, kv.2]) ps kws
  | _, _, .nil => .nil
  | _, _, .cons h r => .cons (sqT_mono e h) (sqT_all e r)
section
variable {C : DC} {e b : Expr} {pos p : Pos} {tb : TV} {i : Nat}
theorem dcall_dictP : DCall C (fun xs H Q => ∃ (a : Addr) (ps : List Addr) (kvs : List (Key × V)), xs = [.ref a] ∧ SqL C.X.K H a (ps.map V.ref) ∧ Paired (fun p kv => SqT C.X.K H p [kV kv.1, kv.2]) ps kvs ∧ ∀ p, H p = none → Q (.ref p) (upd H p (.dK (mergeK [] kvs)))) dDictP := fun vs ss δ σ W H Q QV sat r ⟨kvs, e, nd, q⟩ k => by
  subst e
  obtain ⟨v, rfl, r1⟩ := all2_one r
  obtain ⟨a, ws, rfl, h, h2⟩ := dp_list_inv (show Dp C.X.K W.b v (.list _) from r1)
  obtain ⟨ps, kws, rfl, i2, i3, i4⟩ := pairs_dp h2
  refine ⟨a, ps, kws, rfl, sqL_mono sat.ok.bH h, sqT_all sat.ok.bH i2, fun p hp => ?_⟩
  have em : mergeK [] kws = kws := by
    refine mergeK_nodup kws [] ?_
    rw [← i4] at nd
    rw [List.nil_append]
    exact List.pairwise_map.mp nd
  rw [em]
  have st := Step.put (o := HO.dK kws) sat.ok.bH hp
  refine k _ _ _ (.dic kvs) (sat.go (sat.ok.put hp) st) st ⟨p, kws, rfl, upd_same, kv_mono st.b i3⟩ (fun _ _ z => nomatch z) q
/-- d[k] -/
def tvDget (i : Nat) (t : TV) : TV := fun δ Q => ∃ kvs, δ[i]? = some (some (.dic kvs)) ∧ t δ fun y => ∃ k x, y = keyD k ∧ look kvs k = some x ∧ Q x
theorem dv_dget {n : Nat} (hr : Room n C.X.A) (hx : PE C.X e (tVar i)) (hb : DV C b tb) (hs : NoSl b := by exact fun _ _ => rfl) : DV C (.Subscript e b pos) (tvDget i tb) := by
  obtain ⟨tw, g1, g2⟩ := hb
  refine ⟨_, pe_dget (by have := hr.un; omega) hx g1 hs, fun δ σ W H Q QV sat ⟨kvs, e0, q⟩ kq => ?_⟩
  obtain ⟨v, e1, a, vs, rfl, h1, h2⟩ := sat.sl i _ e0
  refine ⟨_, e1, g2 δ σ W H _ _ sat q fun u W1 H1 y s1 st1 r1 ⟨k, x, ey, el, q1⟩ => ?_⟩
  subst ey
  have eu := key_dp r1
  subst eu
  obtain ⟨z, ez, rz⟩ := kvAll_look h2 el
  refine ⟨a, z, rfl, ?_, kq z W1 H1 x s1 st1 (dp_mono st1.b rz) q1⟩
  rw [← ez]
  exact DGet.k (s1.ok.bH _ _ (st1.b _ _ h1))
end
end DL

-- part DLy
/-! loops and comprehensions by invariants -/
namespace DL
open PySem PySem.Spec PyProof.Rows L2
/-- what is wanted of data, told of a slot's thing -/
def frzK (Q : D → Prop) : S → Prop
  | .d x => Q x
  | .own _ xs => Q (.list xs)
  | _ => False
theorem frz_eq {t : TD} {δ : Sl} {Q : D → Prop} : frz t δ Q = t δ (frzK Q) := by
  unfold frz
  congr 1
  funext s
  cases s <;> rfl
theorem frzK_d {Q : D → Prop} {x : D} : frzK Q (.d x) = Q x := rfl
theorem frzK_own {Q : D → Prop} {p : Addr} {xs : List D} : frzK Q (.own p xs) = Q (.list xs) := rfl
/-- a comprehension whose items give F -/
theorem compWP_of {g : TGD} {tt : TB} {te : TV} {δ : Sl} {Q : List D → Prop} (F : D → Option D) : ∀ (xs acc : List D), (∀ x ∈ xs, ∀ K : Option D → Prop, K (F x) → g (.d x) δ fun δ' => tt δ' fun b => if b = true then te δ' fun y => K (some y) else K none) →
    Q (acc ++ xs.filterMap F) → compWP g tt te δ Q xs acc
  | [], acc, _, q => by
    unfold compWP
    simpa using q
  | x :: xs, acc, h, q => by
    have ih : ∀ acc', Q (acc' ++ xs.filterMap F) → compWP g tt te δ Q xs acc' := fun acc' q' => compWP_of F xs acc' (fun y hy => h y (List.mem_cons_of_mem _ hy)) q'
    have hx := h x (List.mem_cons_self ..) (fun o => match o with
      | some y => compWP g tt te δ Q xs (acc ++ [y])
      | none => compWP g tt te δ Q xs acc) (by
        cases e : F x with
        | some y =>
          refine ih _ ?_
          rw [List.filterMap_cons_some e] at q
          simpa using q
        | none =>
          refine ih _ ?_
          rw [List.filterMap_cons_none e] at q
          exact q)
    exact hx
theorem filterMap_map' {α β γ : Type} (f : β → Option γ) (h : α → β) (l : List α) : (l.map h).filterMap f = l.filterMap (f ∘ h) := by rw [List.filterMap_map]
/-- for, by what holds ahead of each turn -/
theorem forWP_of {g : TGD} {tb : TSD} {E : EndsD} (I : List D → Sl → Prop) : ∀ (xs : List D) (δ : Sl), I xs δ → (∀ δ, I [] δ → E.nx δ) →
    (∀ x r δ, I (x :: r) δ → ∀ T : Sl → Prop, (∀ δ', I r δ' → T δ') → g (.d x) δ fun δ' => tb { E with nx := T, ct := T, bk := E.nx } δ') → forWP g tb E xs δ
  | [], δ, i, e, _ => e δ i
  | x :: r, δ, i, e, s => s x r δ i _ fun δ' i' => forWP_of I r δ' i' e s
theorem forOwnWP_of {j : Nat} {p : Addr} {xs : List D} {g : TGD} {tb : TSD} {E : EndsD} (I : List D → Sl → Prop) : ∀ (l : List D) (δ : Sl), I l δ → (∀ l δ, I l δ → δ[j]? = some (some (.own p xs))) → (∀ x ∈ l, noList x = true) → (∀ δ, I [] δ → E.nx δ) →
    (∀ x r δ, I (x :: r) δ → ∀ T : Sl → Prop, (∀ δ', I r δ' → T δ') → g (.d x) δ fun δ' => tb { E with nx := T, ct := T, bk := E.nx } δ') → forOwnWP j p xs g tb E l δ
  | [], δ, i, o, _, e, _ => ⟨o _ _ i, e δ i⟩
  | x :: r, δ, i, o, n, e, s => ⟨o _ _ i, n x (List.mem_cons_self ..), s x r δ i _ fun δ' i' => forOwnWP_of I r δ' i' o (fun y hy => n y (List.mem_cons_of_mem _ hy)) e s⟩
/-- the range of a length -/
theorem rng0 (n : Nat) : rng 0 ((n : Nat) : Int).toNat = (List.range n).map fun i => PyData.int (i : Nat) := by
  unfold rng
  rw [Int.toNat_natCast]
  refine List.map_congr_left fun i _ => ?_
  rw [Int.zero_add]
end DL

-- part DLz
/-! readings, step by step: nothing is opened of data that are not known -/
namespace DL
open PySem PySem.Spec PyProof.Rows L2
theorem seqD_l {xs : List D} : seqD (.list xs) = some xs := rfl
theorem seqD_t {xs : List D} : seqD (.tuple xs) = some xs := rfl
theorem dIx_l {xs : List D} {i : Int} {Q : D → Prop} : dIx (.list xs) (.int i) Q = ∃ z, atI xs i = some z ∧ Q z := by
  unfold dIx
  simp only [PyData.int.injEq, exists_eq_left']
theorem dIx_t {xs : List D} {i : Int} {Q : D → Prop} : dIx (.tuple xs) (.int i) Q = ∃ z, atI xs i = some z ∧ Q z := by
  unfold dIx
  simp only [PyData.int.injEq, exists_eq_left']
theorem dIx_s {s : Str} {i : Int} {Q : D → Prop} : dIx (.str s) (.int i) Q = (s.length ≤ sizeLine ∧ ∃ c, atI s.cps.toList i = some c ∧ Q (.str ⟨#[c]⟩)) := by
  unfold dIx
  simp only [PyData.int.injEq, exists_eq_left']
theorem dI_i {P : Int → Int → Prop} {f : Int → Int → Int} {i j : Int} {Q : D → Prop} : dI P f (.int i) (.int j) Q = (P i j ∧ Q (.int (f i j))) := rfl
theorem dAdd_i {i j : Int} {Q : D → Prop} : dAdd (.int i) (.int j) Q = Q (.int (i + j)) := rfl
theorem dAdd_t {xs ys : List D} {Q : D → Prop} : dAdd (.tuple xs) (.tuple ys) Q = (xs.length + ys.length ≤ sizeLine ∧ Q (.tuple (xs ++ ys))) := rfl
theorem dAdd_s {x y : Str} {Q : D → Prop} : dAdd (.str x) (.str y) Q = (x.length + y.length ≤ sizeLine ∧ Q (.str (x ++ y))) := rfl
theorem dCmp_i {f : Int → Int → Bool} {i j : Int} {Q : D → Prop} : dCmp f (.int i) (.int j) Q = Q (.bool (f i j)) := rfl
def negK (Q : D → Prop) : D → Prop
  | .int i => Q (.int (-i))
  | _ => False
theorem dNeg_eq {t : TV} {δ : Sl} {Q : D → Prop} : dNeg t δ Q = t δ (negK Q) := by
  unfold dNeg
  congr 1
theorem negK_i {Q : D → Prop} {i : Int} : negK Q (.int i) = Q (.int (-i)) := rfl
/-- a truth is known -/
def boolK (Q : Bool → Prop) : D → Prop := fun x => ∃ k, x = .bool k ∧ Q k
theorem tbOf_eq {t : TV} {δ : Sl} {Q : Bool → Prop} : tbOf t δ Q = t δ (boolK Q) := rfl
theorem boolK_b {Q : Bool → Prop} {b : Bool} : boolK Q (.bool b) = Q b := by
  unfold boolK
  simp only [PyData.bool.injEq, exists_eq_left']
end DL

-- part DLx
/-! the law's def: the state is made, then the rest draws -/
namespace DL
open PySem PySem.Spec PyProof.Rows L2
/-- what the law's def promises: it answers True -/
def LawSp (K : PySem.W.Frag) (m : Nat) : Sp := fun vs H Q _ => ∃ (a : Addr) (ns : List Int), vs = [.ref a] ∧ SqL K H a (ns.map V.int) ∧ ns.length ≤ m ∧ ∀ H', Q (.bl true) H'
section
variable {P : Program} {w : World} {K : PySem.W.Frag} {mg : Str → Option Value} {base : Heap}
theorem law_ok {x qual : Str} {params : Arguments} {scope : Scope} {kws : List (Str × V)} {f : Addr} {fd : FuncData} {N : List Str} {s0 : Stmt} {rest : List Stmt} {m : Nat} (hm : m < sizeLine) (F : FunD K x qual params (s0 :: rest) scope [] kws f fd) (Sc : FnScope N ["script"] scope) (hN : 2 ≤ N.length) (hR : ∃ k, Room (k + 1) callerA)
    (hbody : ∀ (cdv : Value) (A : Around) (outer : List Env) (s : Shared) (H : Hp) (E : XK), A = callerA → (ctx P w K mg base N qual scope f cdv A outer s H E ρ0 ⟨H, fun _ => none⟩ (fun _ => False)).Ok →
      ∃ (n : Nat) (t : Addr → List Int → TSD), PS (cxOf (L2.CX P w) P w K mg base N qual scope f cdv A outer s H E) s0 (tAsg (tCall (SpBegun K) [] E0 (tCons (tVar 0) tNil)) (gName 1)) ∧
        (∀ st g c cs, KSs (ctx P w K mg base N qual scope f cdv A outer s H E ρ0 ⟨H, fun _ => none⟩ (fun _ => False)) (StK st g c cs) n rest (t st cs)) ∧ n ≤ LIM ∧
        ∀ (st : Addr) (cs ns : List Int), ns.length ≤ m → t st cs { nx := fun _ => False, rt := fun s => s = .d (.bool true) } (some (.d (.list (ns.map PyData.int))) :: some (.v (.ref st)) :: List.replicate (N.length - 2) none)) :
    FnAt (· = callerA) P w K mg base f fd ["script"] (LawSp K m) := by
  refine FunD.at' F Sc (fun A e => by subst e; exact hR) (fun vs H Q E h => ?_) fun cdv A outer s H vs Q E hA h => ?_
  · obtain ⟨a, ns, rfl, _⟩ := h
    rfl
  obtain ⟨a, ns, rfl, hs, hl, q⟩ := h
  have ok : (ctx P w K mg base N qual scope f cdv A outer s H E ρ0 ⟨H, fun _ => none⟩ (fun _ => False)).Ok := ⟨takes_of rfl rfl rfl rfl, fun x cls d W' H' e w' st r => e.elim⟩
  obtain ⟨n, t, g0, g1, hn, rd⟩ := hbody cdv A outer s H E hA ok
  have g2 : PSs (cxOf (L2.CX P w) P w K mg base N qual scope f cdv A outer s H E) rest (fun DV σ H' => ∃ st g c cs, canS (ctx P w K mg base N qual scope f cdv A outer s H E ρ0 ⟨H, fun _ => none⟩ (fun _ => False)) (StK st g c cs) n (t st cs) DV σ H') := ⟨fun pins s' σ H' D I ⟨st, g, c, cs, h⟩ => (g1 st g c cs).run pins s' σ H' D I h⟩
  refine ⟨_, pss_cons g0 g2, ?_⟩
  have e0 : (L2.start N [V.ref a])[0]? = some (some (.ref a)) := rfl
  refine ⟨_, e0, a, ns, rfl, hs, by omega, fun H' st g c gs cs keep n1 n2 n3 nd h1 h2 h3 hcs => ?_⟩
  refine ⟨st, g, c, cs, 0, _, ⟨H, fun b => if b = st ∨ b = g ∨ b = c then H' b else none⟩, { nx := fun _ => False, rt := fun s => s = .d (.bool true) }, by omega, ?_, rd st cs ns hl, ⟨fun _ _ _ _ _ _ z => z.elim, fun s v W2 H2 _ _ r _ e => ?_, fun _ _ _ _ _ _ z => z.elim, fun _ _ _ _ _ _ z => z.elim⟩⟩
  · have rin : ∀ b, (b = st ∨ b = g ∨ b = c) → H b = none := fun b h => by
      rcases h with e | e | e <;> rw [e] <;> assumption
    refine ⟨⟨fun b o e => keep b o e, fun b o e => ?_, fun b o e => ?_, ⟨nd, ⟨gs, 0, 0, Nat.le_refl _, ?_, ?_, ?_⟩, hcs⟩⟩, ⟨fun b o e => e, fun b o e _ => keep b o e, fun b o e n => ?_, fun b o e n => ?_, fun b o e => ⟨o, keep b o e⟩⟩, ?_, ?_, ?_, ?_⟩
    · have e : (if b = st ∨ b = g ∨ b = c then H' b else none) = some o := e
      by_cases z : b = st ∨ b = g ∨ b = c
      · rw [if_pos z] at e; exact e
      · rw [if_neg z] at e; cases e
    · have e : H b = some o := e
      show (if b = st ∨ b = g ∨ b = c then H' b else none) = none
      exact if_neg fun z => by rw [rin b z] at e; cases e
    · show (if st = st ∨ st = g ∨ st = c then H' st else none) = _
      rw [if_pos (.inl rfl)]; exact h1
    · show (if g = st ∨ g = g ∨ g = c then H' g else none) = _
      rw [if_pos (.inr (.inl rfl))]; exact h2
    · show (if c = st ∨ c = g ∨ c = c then H' c else none) = _
      rw [if_pos (.inr (.inr rfl))]; exact h3
    · have e : H b = some o := e
      have n : H b = none := n
      rw [n] at e; cases e
    · have e : H b = some o := e
      show (if b = st ∨ b = g ∨ b = c then H' b else none) = none
      exact if_neg fun z => by rw [rin b z] at e; cases e
    · intro i sx e
      match i, e with
      | 0, e =>
        have e : some (some (S.d (.list (ns.map PyData.int)))) = some (some sx) := e
        cases e
        refine ⟨.ref a, ?_, Dp.lst (H := H) hs (dpAll_of_ints ns)⟩
        rw [List.getElem?_set_ne (by decide)]
        exact e0
      | 1, e =>
        have e : some (some (S.v (.ref st))) = some (some sx) := e
        cases e
        refine ⟨.ref st, ?_, rfl⟩
        rw [List.getElem?_set_self (by unfold L2.start; simp; omega)]
      | i + 2, e =>
        have e : (List.replicate (N.length - 2) (none : Option S))[i]? = some (some sx) := e
        rw [List.getElem?_replicate] at e
        split at e <;> cases e
    · intro i j p xs ys e _
      match i, e with
      | 0, e => cases e
      | 1, e => cases e
      | i + 2, e =>
        have e : (List.replicate (N.length - 2) (none : Option S))[i]? = _ := e
        rw [List.getElem?_replicate] at e
        split at e <;> cases e
    · intro i p xs e
      match i, e with
      | 0, e => cases e
      | 1, e => cases e
      | i + 2, e =>
        have e : (List.replicate (N.length - 2) (none : Option S))[i]? = _ := e
        rw [List.getElem?_replicate] at e
        split at e <;> cases e
    · unfold L2.start
      simp
      omega
  · subst e
    have r : Dp K W2.b v (.bool true) := r
    cases r
    exact q H2
end
end DL

-- part DLsh
/-! how long a repr is -/
namespace DL
open PySem PySem.Spec PyProof.Rows L2
/-- repr is no longer than n -/
def shL (n : Nat) (x : D) : Prop := x.showable = true ∧ x.shown.length ≤ n
theorem shL.mono {m n : Nat} {x : D} (h : shL m x) (l : m ≤ n) : shL n x := ⟨h.1, Nat.le_trans h.2 l⟩
theorem shL_int {i : Int} (h : i.natAbs.log2 < 1920) : shL 1921 (.int i) := ⟨by simpa [PyData.showable] using h, by rw [PyData.shown]; exact int_text_len_1921 h⟩
theorem shL_none : shL 4 .none := ⟨rfl, by rw [PyData.shown]; decide⟩
theorem shL_bool {b : Bool} : shL 5 (.bool b) := ⟨rfl, by rw [PyData.shown]; cases b <;> decide⟩
theorem shL_all {n : Nat} : ∀ {xs : List D}, (∀ x ∈ xs, shL n x) → PyData.showableAll xs = true ∧ ((PyData.shownAll xs).map (·.length)).sum ≤ n * xs.length ∧ (PyData.shownAll xs).length = xs.length
  | [], _ => ⟨rfl, by simp [PyData.shownAll], rfl⟩
  | x :: xs, h => by
    have h1 := h x (List.mem_cons_self ..)
    obtain ⟨h2, h3, h4⟩ := shL_all (xs := xs) fun y hy => h y (List.mem_cons_of_mem _ hy)
    refine ⟨?_, ?_, ?_⟩
    · rw [PyData.showableAll, Bool.and_eq_true]
      exact ⟨h1.1, h2⟩
    · rw [PyData.shownAll, List.map_cons, List.sum_cons, List.length_cons, Nat.mul_succ]
      have := h1.2
      omega
    · rw [PyData.shownAll, List.length_cons, List.length_cons, h4]
theorem shL_tup {n : Nat} {xs : List D} (h : ∀ x ∈ xs, shL n x) : shL ((n + 2) * xs.length + 3) (.tuple xs) := by
  obtain ⟨h1, h2, h3⟩ := shL_all h
  refine ⟨by rw [PyData.showable]; exact h1, ?_⟩
  rw [PyData.shown]
  have := tupleText_len_le (PyData.shownAll xs)
  rw [h3] at this
  rw [Nat.add_mul]
  omega
end DL

-- part M9
/-! k09, plain: rates and payments -/
namespace K09
/-- what all give at the rate q -/
def give (m w : Nat → Rat) (q : Rat) (i : Nat) : Rat := if m i < q * w i then m i else q * w i
def sumOn (f : Nat → Rat) (A : List Nat) : Rat := (A.map f).sum
theorem sum_nil (f : Nat → Rat) : sumOn f [] = 0 := rfl
theorem sum_cons (f : Nat → Rat) (a : Nat) (A : List Nat) : sumOn f (a :: A) = f a + sumOn f A := by simp [sumOn]
theorem sum_le {f g : Nat → Rat} : ∀ {A : List Nat}, (∀ i ∈ A, f i ≤ g i) → sumOn f A ≤ sumOn g A
  | [], _ => by rw [sum_nil, sum_nil]; exact Rat.le_refl
  | a :: A, h => by
    have h1 := h a (List.mem_cons_self ..)
    have h2 := sum_le (A := A) fun i hi => h i (List.mem_cons_of_mem _ hi)
    rw [sum_cons, sum_cons]
    grind
theorem sum_lt {f g : Nat → Rat} : ∀ {A : List Nat} {j : Nat}, (∀ i ∈ A, f i ≤ g i) → j ∈ A → f j < g j → sumOn f A < sumOn g A
  | a :: A, j, h, hj, hl => by
    have h1 := h a (List.mem_cons_self ..)
    have h2 := sum_le (A := A) fun i hi => h i (List.mem_cons_of_mem _ hi)
    rw [sum_cons, sum_cons]
    rcases List.mem_cons.mp hj with e | e
    · subst e; grind
    · have := sum_lt (A := A) (fun i hi => h i (List.mem_cons_of_mem _ hi)) e hl
      grind
theorem sum_congr {f g : Nat → Rat} {A : List Nat} (h : ∀ i ∈ A, f i = g i) : sumOn f A = sumOn g A := by
  unfold sumOn
  rw [List.map_congr_left h]
theorem sum_mul (f : Nat → Rat) (q : Rat) : ∀ A : List Nat, sumOn (fun i => q * f i) A = q * sumOn f A
  | [] => by rw [sum_nil, sum_nil]; grind
  | a :: A => by rw [sum_cons, sum_cons, sum_mul f q A]; grind
theorem sum_split (f : Nat → Rat) (p : Nat → Bool) : ∀ A : List Nat, sumOn f A = sumOn f (A.filter p) + sumOn f (A.filter fun i => !p i)
  | [] => by simp [sumOn]; grind
  | a :: A => by
    rw [sum_cons, sum_split f p A]
    cases h : p a with
    | true => rw [List.filter_cons_of_pos h, List.filter_cons_of_neg (by simp [h]), sum_cons]; grind
    | false => rw [List.filter_cons_of_neg (by simp [h]), List.filter_cons_of_pos (by simp [h]), sum_cons]; grind
theorem sum_erase (f : Nat → Rat) : ∀ {A : List Nat} {j : Nat}, j ∈ A → sumOn f (A.erase j) = sumOn f A - f j
  | a :: A, j, h => by
    rw [List.erase_cons]
    by_cases e : a = j
    · subst e
      rw [if_pos (by simp), sum_cons]
      grind
    · have hm : j ∈ A := by
        rcases List.mem_cons.mp h with z | z
        · exact absurd z.symm e
        · exact z
      rw [if_neg (by simpa using e), sum_cons, sum_cons, sum_erase f hm]
      grind
/-- the rate, or none -/
def IsRate (m w : Nat → Rat) (A : List Nat) (c : Rat) : Option Rat → Prop
  | none => A = [] ∨ sumOn m A < c
  | some q => (A ≠ [] ∧ c ≤ sumOn m A) ∧ 0 < q ∧ sumOn (give m w q) A = c ∧ ∃ j ∈ A, q * w j ≤ m j
theorem rate_unique {m w : Nat → Rat} {A : List Nat} {c : Rat} (hw : ∀ i ∈ A, 0 < w i) : ∀ {r r' : Option Rat}, IsRate m w A c r → IsRate m w A c r' → r = r' := by
  have lt : ∀ {q q' : Rat}, IsRate m w A c (some q) → IsRate m w A c (some q') → ¬ q < q' := by
    intro q q' ⟨_, _, h1, _⟩ ⟨_, _, h2, j, hj, hle⟩ hlt
    have : sumOn (give m w q) A < sumOn (give m w q') A := by
      refine sum_lt (fun i hi => ?_) hj ?_
      · have hwi := hw i hi
        have : q * w i < q' * w i := Rat.mul_lt_mul_of_pos_right hlt hwi
        unfold give
        grind
      · have hwi := hw j hj
        have : q * w j < q' * w j := Rat.mul_lt_mul_of_pos_right hlt hwi
        unfold give
        grind
    grind
  intro r r' h h'
  cases r with
  | none =>
    cases r' with
    | none => rfl
    | some q =>
      exfalso
      obtain ⟨⟨h1, h2⟩, _⟩ := h'
      rcases h with e | e
      · exact h1 e
      · grind
  | some q =>
    cases r' with
    | none =>
      exfalso
      obtain ⟨⟨h1, h2⟩, _⟩ := h
      rcases h' with e | e
      · exact h1 e
      · grind
    | some q' =>
      have a := lt h h'
      have b := lt h' h
      have : q = q' := by grind
      rw [this]
/-- the program's loop: those who still pay by worth -/
structure Inv (m w : Nat → Rat) (A : List Nat) (c : Rat) (P : List Nat) (o t : Rat) : Prop where
  sub : ∀ i ∈ P, i ∈ A
  nd : P.Nodup
  ne : P ≠ []
  op : 0 < o
  ole : o ≤ sumOn m P
  os : o = c - (sumOn m A - sumOn m P)
  ts : t = sumOn w P
  out : ∀ i ∈ A, i ∉ P → m i * t ≤ o * w i
theorem Inv.tpos {m w : Nat → Rat} {A P : List Nat} {c o t : Rat} (h : Inv m w A c P o t) (hw : ∀ i ∈ A, 0 < w i) : 0 < t := by
  have h1 : sumOn (fun _ => 0) P < sumOn w P := by
    obtain ⟨j, hj⟩ := List.exists_mem_of_ne_nil _ h.ne
    exact sum_lt (fun i hi => by have := hw i (h.sub i hi); grind) hj (hw j (h.sub j hj))
  have h2 : sumOn (fun _ => (0 : Rat)) P = 0 := by
    have := sum_mul (fun _ => (0 : Rat)) 0 P
    have e : (fun _ : Nat => (0 : Rat) * 0) = fun _ => 0 := by funext; grind
    rw [e] at this
    rw [this]; grind
  rw [h.ts]
  grind
theorem sum_perm (f : Nat → Rat) {A B : List Nat} (h : A.Perm B) : sumOn f A = sumOn f B := by
  induction h with
  | nil => rfl
  | cons x _ ih => rw [sum_cons, sum_cons, ih]
  | swap x y l => rw [sum_cons, sum_cons, sum_cons, sum_cons]; grind
  | trans _ _ h1 h2 => rw [h1, h2]
theorem filter_perm {A P : List Nat} (hA : A.Nodup) (hP : P.Nodup) (sub : ∀ i ∈ P, i ∈ A) : (A.filter fun i => decide (i ∈ P)).Perm P := by
  refine (List.perm_ext_iff_of_nodup (hA.sublist List.filter_sublist) hP).mpr fun i => ?_
  rw [List.mem_filter, decide_eq_true_eq]
  exact ⟨fun h => h.2, fun h => ⟨sub i h, h⟩⟩
theorem le_cancel {a b t : Rat} (ht : 0 < t) (h : a * t ≤ b * t) : a ≤ b := by
  rcases Rat.le_total (a := a) (b := b) with z | z
  · exact z
  · by_cases e : a = b
    · rw [e]; exact Rat.le_refl
    · have hl : b < a := by grind
      have := Rat.mul_lt_mul_of_pos_right hl ht
      grind
theorem div_pos' {o t : Rat} (ho : 0 < o) (ht : 0 < t) : 0 < o / t := by
  rw [Rat.lt_div_iff ht]
  grind
theorem div_mul' {o t : Rat} (ht : 0 < t) : o / t * t = o := by grind
/-- what all give at q, if P pay by worth and the others all they have -/
theorem give_sum {m w : Nat → Rat} {A P : List Nat} {q : Rat} (ndA : A.Nodup) (nd : P.Nodup) (sub : ∀ i ∈ P, i ∈ A) (h1 : ∀ i ∈ P, q * w i ≤ m i) (h2 : ∀ i ∈ A, i ∉ P → m i ≤ q * w i) : sumOn (give m w q) A = q * sumOn w P + (sumOn m A - sumOn m P) := by
  have pp := filter_perm ndA nd sub
  rw [sum_split (give m w q) (fun i => decide (i ∈ P)) A, sum_split m (fun i => decide (i ∈ P)) A, sum_perm _ pp, sum_perm _ pp]
  rw [sum_congr (f := give m w q) (g := fun i => q * w i) (A := P) fun i hi => by
    have := h1 i hi
    unfold give
    grind]
  rw [sum_congr (f := give m w q) (g := m) (A := A.filter fun i => !decide (i ∈ P)) fun i hi => by
    rw [List.mem_filter] at hi
    have := h2 i hi.1 (by simpa using hi.2)
    unfold give
    grind]
  rw [sum_mul]
  grind
/-- at the end -/
theorem Inv.done {m w : Nat → Rat} {A P : List Nat} {c o t : Rat} (h : Inv m w A c P o t) (hw : ∀ i ∈ A, 0 < w i) (hc : c ≤ sumOn m A) (ndA : A.Nodup) (hP : ∀ i ∈ P, o * w i ≤ m i * t) : IsRate m w A c (some (o / t)) := by
  have tp := h.tpos hw
  have neA : A ≠ [] := fun e => by
    obtain ⟨j, hj⟩ := List.exists_mem_of_ne_nil _ h.ne
    have := h.sub j hj
    rw [e] at this
    cases this
  have qt : o / t * t = o := div_mul' tp
  have a1 : ∀ i ∈ P, o / t * w i ≤ m i := fun i hi => le_cancel tp (by have := hP i hi; rw [show o / t * w i * t = o / t * t * w i by rw [Rat.mul_assoc, Rat.mul_comm (w i) t, ← Rat.mul_assoc], qt]; exact this)
  have a2 : ∀ i ∈ A, i ∉ P → m i ≤ o / t * w i := fun i hi hn => le_cancel tp (by have := h.out i hi hn; rw [show o / t * w i * t = o / t * t * w i by rw [Rat.mul_assoc, Rat.mul_comm (w i) t, ← Rat.mul_assoc], qt]; exact this)
  refine ⟨⟨neA, hc⟩, div_pos' h.op tp, ?_, ?_⟩
  · rw [give_sum ndA h.nd h.sub a1 a2, ← h.ts, qt, h.os]
    grind
  · obtain ⟨j, hj⟩ := List.exists_mem_of_ne_nil _ h.ne
    exact ⟨j, h.sub j hj, a1 j hj⟩
/-- one goes -/
theorem Inv.step {m w : Nat → Rat} {A P : List Nat} {c o t : Rat} {j : Nat} (h : Inv m w A c P o t) (hw : ∀ i ∈ A, 0 < w i) (hj : j ∈ P) (hl : m j * t < o * w j) : Inv m w A c (P.erase j) (o - m j) (t - w j) := by
  have tp := h.tpos hw
  have hwj := hw j (h.sub j hj)
  have sP := sum_erase m hj
  have sW := sum_erase w hj
  have mem : ∀ i, i ∈ P.erase j → i ∈ P := fun i hi => List.mem_of_mem_erase hi
  have nej : ∀ i ∈ P, i ≠ j → i ∈ P.erase j := fun i hi hn => (List.mem_erase_of_ne hn).mpr hi
  have ne : P.erase j ≠ [] := fun e => by
    rw [e] at sP sW
    rw [sum_nil] at sP sW
    have e1 : sumOn m P = m j := by grind
    have e2 : t = w j := by rw [h.ts]; grind
    have e3 : o ≤ m j := by rw [← e1]; exact h.ole
    have : o * w j ≤ m j * w j := Rat.mul_le_mul_of_nonneg_right e3 (Rat.le_of_lt hwj)
    rw [e2] at hl
    grind
  have tp' : 0 < t - w j := by
    have h1 : sumOn (fun _ => 0) (P.erase j) < sumOn w (P.erase j) := by
      obtain ⟨i, hi⟩ := List.exists_mem_of_ne_nil _ ne
      exact sum_lt (fun i hi => by have := hw i (h.sub i (mem i hi)); grind) hi (hw i (h.sub i (mem i hi)))
    have h2 : ∀ B : List Nat, sumOn (fun _ => (0 : Rat)) B = 0 := fun B => by
      induction B with
      | nil => rfl
      | cons b B ih => rw [sum_cons, ih]; grind
    rw [h2] at h1
    rw [h.ts]
    grind
  -- the rate grows: o (t - w) < (o - m) t
  have up : o * (t - w j) < (o - m j) * t := by grind
  have op' : 0 < o - m j := by
    have h0 : 0 < o * (t - w j) := Rat.mul_pos h.op tp'
    have h1 : 0 * t < (o - m j) * t := by grind
    rcases Rat.le_total (a := o - m j) (b := 0) with z | z
    · have := Rat.mul_le_mul_of_nonneg_right z (Rat.le_of_lt tp)
      grind
    · by_cases e : o - m j = 0
      · rw [e] at h1; grind
      · grind
  refine ⟨fun i hi => h.sub i (mem i hi), h.nd.erase j, ne, op', ?_, ?_, ?_, fun i hi hn => ?_⟩
  · rw [sP]; have := h.ole; grind
  · rw [sP]; have := h.os; grind
  · rw [sW, h.ts]
  · by_cases e : i = j
    · subst e
      -- m (t - w) ≤ (o - m) w  from  m t < o w
      grind
    · have hnP : i ∉ P := fun z => hn (nej i z e)
      have a1 := h.out i hi hnP
      have hwi := hw i hi
      refine le_cancel tp ?_
      -- m i (t - w) t ≤ (o - m) w i t
      have b1 : m i * t * (t - w j) ≤ o * w i * (t - w j) := Rat.mul_le_mul_of_nonneg_right a1 (Rat.le_of_lt tp')
      have b2 : o * (t - w j) * w i ≤ (o - m j) * t * w i := Rat.mul_le_mul_of_nonneg_right (Rat.le_of_lt up) (Rat.le_of_lt hwi)
      grind
end K09
namespace K09
/-- the law's own way: those below j pay all they have, the others by worth -/
def poorOf (m w : Nat → Rat) (A : List Nat) (j : Nat) : List Nat := A.filter fun i => decide (m i / w i < m j / w j)
def richOf (m w : Nat → Rat) (A : List Nat) (j : Nat) : List Nat := A.filter fun i => !decide (m i / w i < m j / w j)
def rateOf (m w : Nat → Rat) (A : List Nat) (c : Rat) (j : Nat) : Rat := (c - sumOn m (poorOf m w A j)) / sumOn w (richOf m w A j)
def Valid (m w : Nat → Rat) (A : List Nat) (c : Rat) (j : Nat) : Prop := 0 < rateOf m w A c j ∧ (∀ i ∈ richOf m w A j, rateOf m w A c j * w i ≤ m i) ∧ ∀ i ∈ poorOf m w A j, m i ≤ rateOf m w A c j * w i
theorem rich_pos {m w : Nat → Rat} {A : List Nat} {j : Nat} (hw : ∀ i ∈ A, 0 < w i) (hj : j ∈ A) : j ∈ richOf m w A j ∧ 0 < sumOn w (richOf m w A j) := by
  have hr : j ∈ richOf m w A j := by
    unfold richOf
    rw [List.mem_filter]
    refine ⟨hj, ?_⟩
    rw [decide_eq_false (by grind)]
    rfl
  refine ⟨hr, ?_⟩
  have z : ∀ B : List Nat, sumOn (fun _ => (0 : Rat)) B = 0 := fun B => by
    induction B with
    | nil => rfl
    | cons b B ih => rw [sum_cons, ih]; grind
  have h1 : sumOn (fun _ => 0) (richOf m w A j) < sumOn w (richOf m w A j) := sum_lt (fun i hi => by have := hw i (List.mem_filter.mp hi).1; grind) hr (hw j hj)
  rw [z] at h1
  exact h1
theorem valid_is {m w : Nat → Rat} {A : List Nat} {c : Rat} {j : Nat} (hw : ∀ i ∈ A, 0 < w i) (ndA : A.Nodup) (hj : j ∈ A) (v : Valid m w A c j) : IsRate m w A c (some (rateOf m w A c j)) := by
  obtain ⟨v1, v2, v3⟩ := v
  obtain ⟨hr, tp⟩ := rich_pos (m := m) hw hj
  have sub : ∀ i ∈ richOf m w A j, i ∈ A := fun i hi => (List.mem_filter.mp hi).1
  have nd : (richOf m w A j).Nodup := ndA.sublist List.filter_sublist
  have out : ∀ i ∈ A, i ∉ richOf m w A j → m i ≤ rateOf m w A c j * w i := fun i hi hn => v3 i (by
    unfold poorOf richOf at *
    rw [List.mem_filter] at hn ⊢
    refine ⟨hi, ?_⟩
    cases h : decide (m i / w i < m j / w j) with
    | true => rfl
    | false => exact absurd ⟨hi, by rw [h]; rfl⟩ hn)
  have g := give_sum ndA nd sub v2 out
  have qt : rateOf m w A c j * sumOn w (richOf m w A j) = c - sumOn m (poorOf m w A j) := div_mul' tp
  have sp : sumOn m A = sumOn m (poorOf m w A j) + sumOn m (richOf m w A j) := sum_split m _ A
  have le : rateOf m w A c j * sumOn w (richOf m w A j) ≤ sumOn m (richOf m w A j) := by
    rw [← sum_mul]
    exact sum_le v2
  refine ⟨⟨(fun e => by rw [e] at hj; cases hj), by grind⟩, v1, by rw [g, qt]; grind, j, hj, v2 j hr⟩
theorem argmin (f : Nat → Rat) : ∀ {A : List Nat}, A ≠ [] → ∃ t ∈ A, ∀ i ∈ A, f t ≤ f i
  | [a], _ => ⟨a, by simp, by simp⟩
  | a :: b :: A, _ => by
    obtain ⟨t, ht, h⟩ := argmin f (A := b :: A) (by simp)
    rcases Rat.le_total (a := f a) (b := f t) with z | z
    · refine ⟨a, List.mem_cons_self .., fun i hi => ?_⟩
      rcases List.mem_cons.mp hi with e | e
      · rw [e]; exact Rat.le_refl
      · have := h i e; grind
    · refine ⟨t, List.mem_cons_of_mem _ ht, fun i hi => ?_⟩
      rcases List.mem_cons.mp hi with e | e
      · rw [e]; exact z
      · exact h i e
theorem div_lt' {a b q : Rat} (hb : 0 < b) : a / b < q ↔ a < q * b := Rat.div_lt_iff hb
theorem valid_ex {m w : Nat → Rat} {A : List Nat} {c q : Rat} (hw : ∀ i ∈ A, 0 < w i) (ndA : A.Nodup) (h : IsRate m w A c (some q)) : ∃ j ∈ A, Valid m w A c j := by
  obtain ⟨_, hq, hs, j0, hj0, hl0⟩ := h
  have ne : A.filter (fun i => decide (q * w i ≤ m i)) ≠ [] := fun e => by
    have : j0 ∈ A.filter (fun i => decide (q * w i ≤ m i)) := List.mem_filter.mpr ⟨hj0, by simpa using hl0⟩
    rw [e] at this
    cases this
  obtain ⟨t, ht, hmin⟩ := argmin (fun i => m i / w i) ne
  obtain ⟨htA, htq⟩ := List.mem_filter.mp ht
  have htq : q * w t ≤ m t := by simpa using htq
  have hwt := hw t htA
  have lt_iff : ∀ i ∈ A, m i / w i < m t / w t ↔ ¬ q * w i ≤ m i := fun i hi => by
    have hwi := hw i hi
    constructor
    · intro z z2
      have := hmin i (List.mem_filter.mpr ⟨hi, by simpa using z2⟩)
      grind
    · intro z
      have z1 : m i / w i < q := (div_lt' hwi).mpr (by grind)
      have z2 : ¬ m t / w t < q := fun y => by
        have := (div_lt' hwt).mp y
        grind
      grind
  have eP : poorOf m w A t = A.filter fun i => !decide (q * w i ≤ m i) := by
    unfold poorOf
    refine List.filter_congr fun i hi => ?_
    have := lt_iff i hi
    by_cases z : q * w i ≤ m i
    · rw [decide_eq_true z, decide_eq_false (by rw [this]; exact fun y => y z)]; rfl
    · rw [decide_eq_false z, decide_eq_true (this.mpr z)]; rfl
  have eR : richOf m w A t = A.filter fun i => decide (q * w i ≤ m i) := by
    unfold richOf
    refine List.filter_congr fun i hi => ?_
    have := lt_iff i hi
    by_cases z : q * w i ≤ m i
    · rw [decide_eq_true z, decide_eq_false (by rw [this]; exact fun y => y z)]; rfl
    · rw [decide_eq_false z, decide_eq_true (this.mpr z)]; rfl
  have r1 : ∀ i ∈ richOf m w A t, q * w i ≤ m i := fun i hi => by
    rw [eR] at hi
    simpa using (List.mem_filter.mp hi).2
  have r2 : ∀ i ∈ poorOf m w A t, m i ≤ q * w i := fun i hi => by
    rw [eP] at hi
    have := (List.mem_filter.mp hi).2
    have : ¬ q * w i ≤ m i := by simpa using this
    grind
  obtain ⟨hr, tp⟩ := rich_pos (m := m) hw htA
  have g := give_sum (q := q) ndA (ndA.sublist List.filter_sublist) (P := richOf m w A t) (fun i hi => (List.mem_filter.mp hi).1) r1 fun i hi hn => r2 i (by
    rw [eR] at hn
    rw [eP]
    rw [List.mem_filter] at hn ⊢
    refine ⟨hi, ?_⟩
    cases z : decide (q * w i ≤ m i) with
    | true => exact absurd ⟨hi, z⟩ hn
    | false => rfl)
  have sp : sumOn m A = sumOn m (poorOf m w A t) + sumOn m (richOf m w A t) := sum_split m _ A
  have eq : rateOf m w A c t = q := by
    have e1 : c - sumOn m (poorOf m w A t) = q * sumOn w (richOf m w A t) := by grind
    unfold rateOf
    rw [e1]
    grind
  exact ⟨t, htA, by rw [eq]; exact hq, by rw [eq]; exact r1, by rw [eq]; exact r2⟩
end K09

-- part T9
namespace DL
open PySem PySem.Spec PyProof.Rows L2
abbrev prog : Program := PySem.Challenge.pw_pursebyvotes_k09_whole_rates_and_payment
def top (i : Nat) : Stmt := prog.main.body.getD i (.Pass ⟨0, 0, 0, 0⟩)
abbrev s_lowest : Stmt := top 6
theorem sc_lowest : FnScope ["top", "bottom", "shared"] ["top", "bottom"] (defScope s_lowest) := ⟨rfl, rfl, rfl, by decide +kernel, rfl, by decide +kernel, by decide +kernel⟩
theorem b_lowest {K : PySem.W.Frag} {mg : Str → Option Value} (d : Def K mg "lowest" s_lowest) : Binds K (fdOf K "lowest") ["top", "bottom"] [] := d.F.bindsN fun _ _ _ _ _ _ us hl => match us, hl with | [_, _], _ => rfl
abbrev s_plus : Stmt := top 7
theorem sc_plus : FnScope ["one", "other"] ["one", "other"] (defScope s_plus) := ⟨rfl, rfl, rfl, by decide +kernel, rfl, by decide +kernel, by decide +kernel⟩
theorem b_plus {K : PySem.W.Frag} {mg : Str → Option Value} (d : Def K mg "plus" s_plus) : Binds K (fdOf K "plus") ["one", "other"] [] := d.F.bindsN fun _ _ _ _ _ _ us hl => match us, hl with | [_, _], _ => rfl
abbrev s_minus : Stmt := top 8
theorem sc_minus : FnScope ["one", "other"] ["one", "other"] (defScope s_minus) := ⟨rfl, rfl, rfl, by decide +kernel, rfl, by decide +kernel, by decide +kernel⟩
theorem b_minus {K : PySem.W.Frag} {mg : Str → Option Value} (d : Def K mg "minus" s_minus) : Binds K (fdOf K "minus") ["one", "other"] [] := d.F.bindsN fun _ _ _ _ _ _ us hl => match us, hl with | [_, _], _ => rfl
abbrev s_times : Stmt := top 9
theorem sc_times : FnScope ["one", "other"] ["one", "other"] (defScope s_times) := ⟨rfl, rfl, rfl, by decide +kernel, rfl, by decide +kernel, by decide +kernel⟩
theorem b_times {K : PySem.W.Frag} {mg : Str → Option Value} (d : Def K mg "times" s_times) : Binds K (fdOf K "times") ["one", "other"] [] := d.F.bindsN fun _ _ _ _ _ _ us hl => match us, hl with | [_, _], _ => rfl
abbrev s_over : Stmt := top 10
theorem sc_over : FnScope ["one", "other"] ["one", "other"] (defScope s_over) := ⟨rfl, rfl, rfl, by decide +kernel, rfl, by decide +kernel, by decide +kernel⟩
theorem b_over {K : PySem.W.Frag} {mg : Str → Option Value} (d : Def K mg "over" s_over) : Binds K (fdOf K "over") ["one", "other"] [] := d.F.bindsN fun _ _ _ _ _ _ us hl => match us, hl with | [_, _], _ => rfl
abbrev s_is_less : Stmt := top 11
theorem sc_is_less : FnScope ["one", "other"] ["one", "other"] (defScope s_is_less) := ⟨rfl, rfl, rfl, by decide +kernel, rfl, by decide +kernel, by decide +kernel⟩
theorem b_is_less {K : PySem.W.Frag} {mg : Str → Option Value} (d : Def K mg "is_less" s_is_less) : Binds K (fdOf K "is_less") ["one", "other"] [] := d.F.bindsN fun _ _ _ _ _ _ us hl => match us, hl with | [_, _], _ => rfl
abbrev s_lesser : Stmt := top 12
theorem sc_lesser : FnScope ["one", "other"] ["one", "other"] (defScope s_lesser) := ⟨rfl, rfl, rfl, by decide +kernel, rfl, by decide +kernel, by decide +kernel⟩
theorem b_lesser {K : PySem.W.Frag} {mg : Str → Option Value} (d : Def K mg "lesser" s_lesser) : Binds K (fdOf K "lesser") ["one", "other"] [] := d.F.bindsN fun _ _ _ _ _ _ us hl => match us, hl with | [_, _], _ => rfl
abbrev s_total : Stmt := top 13
theorem sc_total : FnScope ["ratios", "found", "one"] ["ratios"] (defScope s_total) := ⟨rfl, rfl, rfl, by decide +kernel, rfl, by decide +kernel, by decide +kernel⟩
theorem b_total {K : PySem.W.Frag} {mg : Str → Option Value} (d : Def K mg "total" s_total) : Binds K (fdOf K "total") ["ratios"] [] := d.F.bindsN fun _ _ _ _ _ _ us hl => match us, hl with | [_], _ => rfl
abbrev s_rate_for : Stmt := top 15
theorem sc_rate_for : FnScope ["moneys", "row", "cost", "payers", "owed", "worths", "first", "one", "rate", "at", "worth", "level"] ["moneys", "row", "cost"] (defScope s_rate_for) := ⟨rfl, rfl, rfl, by decide +kernel, rfl, by decide +kernel, by decide +kernel⟩
theorem b_rate_for {K : PySem.W.Frag} {mg : Str → Option Value} (d : Def K mg "rate_for" s_rate_for) : Binds K (fdOf K "rate_for") ["moneys", "row", "cost"] [] := d.F.bindsN fun _ _ _ _ _ _ us hl => match us, hl with | [_, _, _], _ => rfl
abbrev s_payments_at : Stmt := top 16
theorem sc_payments_at : FnScope ["moneys", "row", "rate", "money", "worth"] ["moneys", "row", "rate"] (defScope s_payments_at) := ⟨rfl, rfl, rfl, by decide +kernel, rfl, by decide +kernel, by decide +kernel⟩
theorem b_payments_at {K : PySem.W.Frag} {mg : Str → Option Value} (d : Def K mg "payments_at" s_payments_at) : Binds K (fdOf K "payments_at") ["moneys", "row", "rate"] [] := d.F.bindsN fun _ _ _ _ _ _ us hl => match us, hl with | [_, _, _], _ => rfl
abbrev s__law_begun : Stmt := top 18
theorem sc__law_begun : FnScope ["script", "great", "cell"] ["script"] (defScope s__law_begun) := ⟨rfl, rfl, rfl, by decide +kernel, rfl, by decide +kernel, by decide +kernel⟩
theorem b__law_begun {K : PySem.W.Frag} {mg : Str → Option Value} (d : Def K mg "_law_begun" s__law_begun) : Binds K (fdOf K "_law_begun") ["script"] [] := d.F.bindsN fun _ _ _ _ _ _ us hl => match us, hl with | [_], _ => rfl
abbrev s__law_mixed : Stmt := top 19
theorem sc__law_mixed : FnScope ["state", "turn", "found", "prime", "blend", "cell"] ["state"] (defScope s__law_mixed) := ⟨rfl, rfl, rfl, by decide +kernel, rfl, by decide +kernel, by decide +kernel⟩
theorem b__law_mixed {K : PySem.W.Frag} {mg : Str → Option Value} (d : Def K mg "_law_mixed" s__law_mixed) : Binds K (fdOf K "_law_mixed") ["state"] [] := d.F.bindsN fun _ _ _ _ _ _ us hl => match us, hl with | [_], _ => rfl
abbrev s__law_draw : Stmt := top 20
theorem sc__law_draw : FnScope ["state", "room", "found"] ["state", "room"] (defScope s__law_draw) := ⟨rfl, rfl, rfl, by decide +kernel, rfl, by decide +kernel, by decide +kernel⟩
theorem b__law_draw {K : PySem.W.Frag} {mg : Str → Option Value} (d : Def K mg "_law_draw" s__law_draw) : Binds K (fdOf K "_law_draw") ["state", "room"] [] := d.F.bindsN fun _ _ _ _ _ _ us hl => match us, hl with | [_, _], _ => rfl
abbrev s__law_pick : Stmt := top 21
theorem sc__law_pick : FnScope ["state", "some"] ["state", "some"] (defScope s__law_pick) := ⟨rfl, rfl, rfl, by decide +kernel, rfl, by decide +kernel, by decide +kernel⟩
theorem b__law_pick {K : PySem.W.Frag} {mg : Str → Option Value} (d : Def K mg "_law_pick" s__law_pick) : Binds K (fdOf K "_law_pick") ["state", "some"] [] := d.F.bindsN fun _ _ _ _ _ _ us hl => match us, hl with | [_, _], _ => rfl
abbrev s__law_plain : Stmt := top 22
theorem sc__law_plain : FnScope ["value", "one"] ["value"] (defScope s__law_plain) := ⟨rfl, rfl, rfl, by decide +kernel, rfl, by decide +kernel, by decide +kernel⟩
theorem b__law_plain {K : PySem.W.Frag} {mg : Str → Option Value} (d : Def K mg "_law_plain" s__law_plain) : Binds K (fdOf K "_law_plain") ["value"] [] := d.F.bindsN fun _ _ _ _ _ _ us hl => match us, hl with | [_], _ => rfl
abbrev s__law_is : Stmt := top 23
theorem sc__law_is : FnScope ["found", "due"] ["found", "due"] (defScope s__law_is) := ⟨rfl, rfl, rfl, by decide +kernel, rfl, by decide +kernel, by decide +kernel⟩
theorem b__law_is {K : PySem.W.Frag} {mg : Str → Option Value} (d : Def K mg "_law_is" s__law_is) : Binds K (fdOf K "_law_is") ["found", "due"] [] := d.F.bindsN fun _ _ _ _ _ _ us hl => match us, hl with | [_, _], _ => rfl
abbrev s__law_frac : Stmt := top 24
theorem sc__law_frac : FnScope ["top", "bottom", "one", "other"] ["top", "bottom"] (defScope s__law_frac) := ⟨rfl, rfl, rfl, by decide +kernel, rfl, by decide +kernel, by decide +kernel⟩
theorem b__law_frac {K : PySem.W.Frag} {mg : Str → Option Value} (d : Def K mg "_law_frac" s__law_frac) : Binds K (fdOf K "_law_frac") ["top", "bottom"] [] := d.F.bindsN fun _ _ _ _ _ _ us hl => match us, hl with | [_, _], _ => rfl
abbrev s__law_add : Stmt := top 25
theorem sc__law_add : FnScope ["one", "other"] ["one", "other"] (defScope s__law_add) := ⟨rfl, rfl, rfl, by decide +kernel, rfl, by decide +kernel, by decide +kernel⟩
theorem b__law_add {K : PySem.W.Frag} {mg : Str → Option Value} (d : Def K mg "_law_add" s__law_add) : Binds K (fdOf K "_law_add") ["one", "other"] [] := d.F.bindsN fun _ _ _ _ _ _ us hl => match us, hl with | [_, _], _ => rfl
abbrev s__law_sub : Stmt := top 26
theorem sc__law_sub : FnScope ["one", "other"] ["one", "other"] (defScope s__law_sub) := ⟨rfl, rfl, rfl, by decide +kernel, rfl, by decide +kernel, by decide +kernel⟩
theorem b__law_sub {K : PySem.W.Frag} {mg : Str → Option Value} (d : Def K mg "_law_sub" s__law_sub) : Binds K (fdOf K "_law_sub") ["one", "other"] [] := d.F.bindsN fun _ _ _ _ _ _ us hl => match us, hl with | [_, _], _ => rfl
abbrev s__law_mul : Stmt := top 27
theorem sc__law_mul : FnScope ["one", "other"] ["one", "other"] (defScope s__law_mul) := ⟨rfl, rfl, rfl, by decide +kernel, rfl, by decide +kernel, by decide +kernel⟩
theorem b__law_mul {K : PySem.W.Frag} {mg : Str → Option Value} (d : Def K mg "_law_mul" s__law_mul) : Binds K (fdOf K "_law_mul") ["one", "other"] [] := d.F.bindsN fun _ _ _ _ _ _ us hl => match us, hl with | [_, _], _ => rfl
abbrev s__law_below : Stmt := top 28
theorem sc__law_below : FnScope ["one", "other"] ["one", "other"] (defScope s__law_below) := ⟨rfl, rfl, rfl, by decide +kernel, rfl, by decide +kernel, by decide +kernel⟩
theorem b__law_below {K : PySem.W.Frag} {mg : Str → Option Value} (d : Def K mg "_law_below" s__law_below) : Binds K (fdOf K "_law_below") ["one", "other"] [] := d.F.bindsN fun _ _ _ _ _ _ us hl => match us, hl with | [_, _], _ => rfl
abbrev s__law_sum : Stmt := top 29
theorem sc__law_sum : FnScope ["some", "found", "one"] ["some"] (defScope s__law_sum) := ⟨rfl, rfl, rfl, by decide +kernel, rfl, by decide +kernel, by decide +kernel⟩
theorem b__law_sum {K : PySem.W.Frag} {mg : Str → Option Value} (d : Def K mg "_law_sum" s__law_sum) : Binds K (fdOf K "_law_sum") ["some"] [] := d.F.bindsN fun _ _ _ _ _ _ us hl => match us, hl with | [_], _ => rfl
abbrev s__law_rate : Stmt := top 30
theorem sc__law_rate : FnScope ["moneys", "row", "cost", "some", "limits", "best", "first", "poor", "rich", "owed", "rate", "at"] ["moneys", "row", "cost"] (defScope s__law_rate) := ⟨rfl, rfl, rfl, by decide +kernel, rfl, by decide +kernel, by decide +kernel⟩
theorem b__law_rate {K : PySem.W.Frag} {mg : Str → Option Value} (d : Def K mg "_law_rate" s__law_rate) : Binds K (fdOf K "_law_rate") ["moneys", "row", "cost"] [] := d.F.bindsN fun _ _ _ _ _ _ us hl => match us, hl with | [_, _, _], _ => rfl
abbrev s__law_paid : Stmt := top 31
theorem sc__law_paid : FnScope ["moneys", "row", "rate", "found", "at", "part"] ["moneys", "row", "rate"] (defScope s__law_paid) := ⟨rfl, rfl, rfl, by decide +kernel, rfl, by decide +kernel, by decide +kernel⟩
theorem b__law_paid {K : PySem.W.Frag} {mg : Str → Option Value} (d : Def K mg "_law_paid" s__law_paid) : Binds K (fdOf K "_law_paid") ["moneys", "row", "rate"] [] := d.F.bindsN fun _ _ _ _ _ _ us hl => match us, hl with | [_, _, _], _ => rfl
abbrev s_law : Stmt := top 32
theorem sc_law : FnScope ["script", "state", "turn", "many", "moneys", "row", "whole", "cost", "told", "due", "paid", "lap", "money", "worth", "part"] ["script"] (defScope s_law) := ⟨rfl, rfl, rfl, by decide +kernel, rfl, by decide +kernel, by decide +kernel⟩
theorem b_law {K : PySem.W.Frag} {mg : Str → Option Value} (d : Def K mg "law" s_law) : Binds K (fdOf K "law") ["script"] [] := d.F.bindsN fun _ _ _ _ _ _ us hl => match us, hl with | [_], _ => rfl
structure Txt (K : PySem.W.Frag) (mg : Str → Option Value) : Prop where
  d_lowest : Def K mg "lowest" s_lowest
  d_plus : Def K mg "plus" s_plus
  d_minus : Def K mg "minus" s_minus
  d_times : Def K mg "times" s_times
  d_over : Def K mg "over" s_over
  d_is_less : Def K mg "is_less" s_is_less
  d_lesser : Def K mg "lesser" s_lesser
  d_total : Def K mg "total" s_total
  d_rate_for : Def K mg "rate_for" s_rate_for
  d_payments_at : Def K mg "payments_at" s_payments_at
  d__law_begun : Def K mg "_law_begun" s__law_begun
  d__law_mixed : Def K mg "_law_mixed" s__law_mixed
  d__law_draw : Def K mg "_law_draw" s__law_draw
  d__law_pick : Def K mg "_law_pick" s__law_pick
  d__law_plain : Def K mg "_law_plain" s__law_plain
  d__law_is : Def K mg "_law_is" s__law_is
  d__law_frac : Def K mg "_law_frac" s__law_frac
  d__law_add : Def K mg "_law_add" s__law_add
  d__law_sub : Def K mg "_law_sub" s__law_sub
  d__law_mul : Def K mg "_law_mul" s__law_mul
  d__law_below : Def K mg "_law_below" s__law_below
  d__law_sum : Def K mg "_law_sum" s__law_sum
  d__law_rate : Def K mg "_law_rate" s__law_rate
  d__law_paid : Def K mg "_law_paid" s__law_paid
  d_law : Def K mg "law" s_law
  b_tuple : mg "tuple" = none
  b_isinstance : mg "isinstance" = none
  b_dict : mg "dict" = none
  b_max : mg "max" = none
  b_range : mg "range" = none
  b_sum : mg "sum" = none
  b_int : mg "int" = none
  b_list : mg "list" = none
  b_abs : mg "abs" = none
  b_len : mg "len" = none
  b_enumerate : mg "enumerate" = none
  b_str : mg "str" = none
  b_repr : mg "repr" = none
  b_min : mg "min" = none
  b_zip : mg "zip" = none
  g_gcd : mg "gcd" = some (.builtin "math.gcd")
  c_ZERO : mg "ZERO" = some (.ref (He.ga K "ZERO")) ∧ ∀ H : Hp, Dp K H (.ref (He.ga K "ZERO")) (.tuple [.int 0, .int 1])
section
variable {P : Program} {w : World} {K : PySem.W.Frag} {mg : Str → Option Value} {base : Heap} {ρ : Hp → Prop} {st g c : Addr} {cs : List Int}
theorem ok_lowest (T : Txt K mg) : FnD P w K mg base ρ 1 (He.ga K "lowest") (fdOf K "lowest") ["top", "bottom"] sp_lowest := FunD.data T.d_lowest.F sc_lowest (by decide) fun cdv A outer s H E W Ed ok hr => ⟨r_lowest Ed, dss_cons (ds_set (i := 2) sc_lowest.nd rfl (by first | exact Or.inl rfl | exact Or.inr rfl) (de_dv (dv_frz (de_callBfun cr_gcd dcall_gcd rfl T.g_gcd (da_d (vv 0) (da_d (vv 1) (da_nil))))))) (dss_cons (ds_if (dt_lt (vv 1) (dv_int)) (dss_one (ds_set (i := 2) sc_lowest.nd rfl (by first | exact Or.inl rfl | exact Or.inr rfl) (de_dv (dv_neg (vv 2))))) (dss_nil)) (dss_one (ds_ret (de_dv (dv_tup (da_d (dv_divA (vv 0) (vv 2)) (da_d (dv_divA (vv 1) (vv 2)) (da_nil)))))))), fun ss Qd hl h => pu_lowest h⟩
theorem ok_plus (T : Txt K mg) : FnD P w K mg base ρ 2 (He.ga K "plus") (fdOf K "plus") ["one", "other"] sp_plus := FunD.data T.d_plus.F sc_plus (by decide) fun cdv A outer s H E W Ed ok hr => ⟨r_plus Ed, dss_cons (ds_if (dt_eq hr (dv_ix (vv 0) (dv_int)) (dv_ix (vv 1) (dv_int))) (dss_one (ds_ret (de_call (ok_lowest T) ok (hr.mono (by decide)) T.d_lowest.g T.d_lowest.F.kp (b_lowest T.d_lowest) (da_d (dv_add (dv_ix (vv 0) (dv_int)) (dv_ix (vv 1) (dv_int))) (da_d (dv_ix (vv 0) (dv_int)) (da_nil)))))) (dss_nil)) (dss_one (ds_ret (de_call (ok_lowest T) ok (hr.mono (by decide)) T.d_lowest.g T.d_lowest.F.kp (b_lowest T.d_lowest) (da_d (dv_add (dv_mul (dv_ix (vv 0) (dv_int)) (dv_ix (vv 1) (dv_int))) (dv_mul (dv_ix (vv 1) (dv_int)) (dv_ix (vv 0) (dv_int)))) (da_d (dv_mul (dv_ix (vv 0) (dv_int)) (dv_ix (vv 1) (dv_int))) (da_nil)))))), fun ss Qd hl h => pu_plus h⟩
theorem ok_minus (T : Txt K mg) : FnD P w K mg base ρ 3 (He.ga K "minus") (fdOf K "minus") ["one", "other"] sp_minus := FunD.data T.d_minus.F sc_minus (by decide) fun cdv A outer s H E W Ed ok hr => ⟨r_minus Ed, dss_one (ds_ret (de_call (ok_plus T) ok (hr.mono (by decide)) T.d_plus.g T.d_plus.F.kp (b_plus T.d_plus) (da_d (vv 0) (da_d (dv_tup (da_d (dv_neg (dv_ix (vv 1) (dv_int))) (da_d (dv_ix (vv 1) (dv_int)) (da_nil)))) (da_nil))))), fun ss Qd hl h => pu_minus h⟩
theorem ok_times (T : Txt K mg) : FnD P w K mg base ρ 2 (He.ga K "times") (fdOf K "times") ["one", "other"] sp_times := FunD.data T.d_times.F sc_times (by decide) fun cdv A outer s H E W Ed ok hr => ⟨r_times Ed, dss_one (ds_ret (de_call (ok_lowest T) ok (hr.mono (by decide)) T.d_lowest.g T.d_lowest.F.kp (b_lowest T.d_lowest) (da_d (dv_mul (dv_ix (vv 0) (dv_int)) (dv_ix (vv 1) (dv_int))) (da_d (dv_mul (dv_ix (vv 0) (dv_int)) (dv_ix (vv 1) (dv_int))) (da_nil))))), fun ss Qd hl h => pu_times h⟩
theorem ok_over (T : Txt K mg) : FnD P w K mg base ρ 3 (He.ga K "over") (fdOf K "over") ["one", "other"] sp_over := FunD.data T.d_over.F sc_over (by decide) fun cdv A outer s H E W Ed ok hr => ⟨r_over Ed, dss_cons (ds_if (dt_eq hr (dv_ix (vv 1) (dv_int)) (dv_int)) (dss_one (ds_never)) (dss_nil)) (dss_one (ds_ret (de_call (ok_lowest T) ok (hr.mono (by decide)) T.d_lowest.g T.d_lowest.F.kp (b_lowest T.d_lowest) (da_d (dv_mul (dv_ix (vv 0) (dv_int)) (dv_ix (vv 1) (dv_int))) (da_d (dv_mul (dv_ix (vv 0) (dv_int)) (dv_ix (vv 1) (dv_int))) (da_nil)))))), fun ss Qd hl h => pu_over h⟩
theorem ok_is_less (T : Txt K mg) : FnD P w K mg base ρ 1 (He.ga K "is_less") (fdOf K "is_less") ["one", "other"] sp_is_less := FunD.data T.d_is_less.F sc_is_less (by decide) fun cdv A outer s H E W Ed ok hr => ⟨r_is_less Ed, dss_one (ds_ret (de_dv (dv_lt (dv_mul (dv_ix (vv 0) (dv_int)) (dv_ix (vv 1) (dv_int))) (dv_mul (dv_ix (vv 1) (dv_int)) (dv_ix (vv 0) (dv_int)))))), fun ss Qd hl h => pu_is_less h⟩
theorem ok_lesser (T : Txt K mg) : FnD P w K mg base ρ 2 (He.ga K "lesser") (fdOf K "lesser") ["one", "other"] sp_lesser := FunD.data T.d_lesser.F sc_lesser (by decide) fun cdv A outer s H E W Ed ok hr => ⟨r_lesser Ed, dss_one (ds_ret (de_dv (dv_if (dt_val (dv_frz (de_call (ok_is_less T) ok (hr.mono (by decide)) T.d_is_less.g T.d_is_less.F.kp (b_is_less T.d_is_less) (da_d (vv 0) (da_d (vv 1) (da_nil)))))) (vv 0) (vv 1)))), fun ss Qd hl h => pu_lesser h⟩
theorem ok_total (T : Txt K mg) : FnD P w K mg base ρ 3 (He.ga K "total") (fdOf K "total") ["ratios"] sp_total := FunD.data T.d_total.F sc_total (by decide) fun cdv A outer s H E W Ed ok hr => ⟨r_total Ed, dss_cons (ds_set (i := 1) sc_total.nd rfl (by first | exact Or.inl rfl | exact Or.inr rfl) (de_dv (dv_globT T.c_ZERO.1 T.c_ZERO.2))) (dss_cons (ds_for (passes_of rfl) rfl (di_seq (vv 0)) (dg_name (i := 2) sc_total.nd rfl (by first | exact Or.inl rfl | exact Or.inr rfl)) (dss_one (ds_set (i := 1) sc_total.nd rfl (by first | exact Or.inl rfl | exact Or.inr rfl) (de_dv (dv_frz (de_call (ok_plus T) ok (hr.mono (by decide)) T.d_plus.g T.d_plus.F.kp (b_plus T.d_plus) (da_d (vv 1) (da_d (vv 2) (da_nil))))))))) (dss_one (ds_ret (de_dv (vv 1))))), fun ss Qd hl h => pu_total h⟩
theorem ok__law_frac (T : Txt K mg) : FnD P w K mg base ρ 1 (He.ga K "_law_frac") (fdOf K "_law_frac") ["top", "bottom"] sp__law_frac := FunD.data T.d__law_frac.F sc__law_frac (by decide) fun cdv A outer s H E W Ed ok hr => ⟨r__law_frac Ed, dss_cons (ds_par (i := 2) (j := 3) rfl sc__law_frac.nd rfl rfl (by decide) rfl rfl (de_dv (dv_frz (de_callB call_abs dcall_abs rfl T.b_abs (by decide +kernel) (da_d (vv 0) (da_nil))))) (de_dv (dv_frz (de_callB call_abs dcall_abs rfl T.b_abs (by decide +kernel) (da_d (vv 1) (da_nil))))) rfl) (dss_cons (ds_while (passes_of rfl) (dt_gt (vv 3) (dv_int)) (dss_one (ds_par (i := 2) (j := 3) rfl sc__law_frac.nd rfl rfl (by decide) rfl rfl (de_dv (vv 3)) (de_dv (dv_mod (dv_frz (de_callTy call_int1 dcall_int1 rfl T.b_int (by decide +kernel) (da_d (vv 2) (da_nil)))) (vv 3))) rfl))) (dss_cons (ds_set (i := 2) sc__law_frac.nd rfl (by first | exact Or.inl rfl | exact Or.inr rfl) (de_dv (dv_frz (de_callB (call_max2 rfl) dcall_max2 rfl T.b_max (by decide +kernel) (da_d (vv 2) (da_d (dv_int) (da_nil))))))) (dss_one (ds_ret (de_dv (dv_if (dt_gt (vv 1) (dv_int)) (dv_tup (da_d (dv_div (vv 0) (vv 2)) (da_d (dv_div (vv 1) (vv 2)) (da_nil)))) (dv_tup (da_d (dv_div (dv_neg (vv 0)) (vv 2)) (da_d (dv_div (dv_neg (vv 1)) (vv 2)) (da_nil)))))))))), fun ss Qd hl h => pu__law_frac h⟩
theorem ok__law_add (T : Txt K mg) : FnD P w K mg base ρ 2 (He.ga K "_law_add") (fdOf K "_law_add") ["one", "other"] sp__law_add := FunD.data T.d__law_add.F sc__law_add (by decide) fun cdv A outer s H E W Ed ok hr => ⟨r__law_add Ed, dss_one (ds_ret (de_call (ok__law_frac T) ok (hr.mono (by decide)) T.d__law_frac.g T.d__law_frac.F.kp (b__law_frac T.d__law_frac) (da_d (dv_add (dv_mul (dv_ix (vv 0) (dv_int)) (dv_ix (vv 1) (dv_int))) (dv_mul (dv_ix (vv 1) (dv_int)) (dv_ix (vv 0) (dv_int)))) (da_d (dv_mul (dv_ix (vv 0) (dv_int)) (dv_ix (vv 1) (dv_int))) (da_nil))))), fun ss Qd hl h => pu__law_add h⟩
theorem ok__law_sub (T : Txt K mg) : FnD P w K mg base ρ 2 (He.ga K "_law_sub") (fdOf K "_law_sub") ["one", "other"] sp__law_sub := FunD.data T.d__law_sub.F sc__law_sub (by decide) fun cdv A outer s H E W Ed ok hr => ⟨r__law_sub Ed, dss_one (ds_ret (de_call (ok__law_frac T) ok (hr.mono (by decide)) T.d__law_frac.g T.d__law_frac.F.kp (b__law_frac T.d__law_frac) (da_d (dv_sub (dv_mul (dv_ix (vv 0) (dv_int)) (dv_ix (vv 1) (dv_int))) (dv_mul (dv_ix (vv 1) (dv_int)) (dv_ix (vv 0) (dv_int)))) (da_d (dv_mul (dv_ix (vv 0) (dv_int)) (dv_ix (vv 1) (dv_int))) (da_nil))))), fun ss Qd hl h => pu__law_sub h⟩
theorem ok__law_mul (T : Txt K mg) : FnD P w K mg base ρ 2 (He.ga K "_law_mul") (fdOf K "_law_mul") ["one", "other"] sp__law_mul := FunD.data T.d__law_mul.F sc__law_mul (by decide) fun cdv A outer s H E W Ed ok hr => ⟨r__law_mul Ed, dss_one (ds_ret (de_call (ok__law_frac T) ok (hr.mono (by decide)) T.d__law_frac.g T.d__law_frac.F.kp (b__law_frac T.d__law_frac) (da_d (dv_mul (dv_ix (vv 0) (dv_int)) (dv_ix (vv 1) (dv_int))) (da_d (dv_mul (dv_ix (vv 0) (dv_int)) (dv_ix (vv 1) (dv_int))) (da_nil))))), fun ss Qd hl h => pu__law_mul h⟩
theorem ok__law_below (T : Txt K mg) : FnD P w K mg base ρ 1 (He.ga K "_law_below") (fdOf K "_law_below") ["one", "other"] sp__law_below := FunD.data T.d__law_below.F sc__law_below (by decide) fun cdv A outer s H E W Ed ok hr => ⟨r__law_below Ed, dss_one (ds_ret (de_dv (dv_lt (dv_mul (dv_ix (vv 0) (dv_int)) (dv_ix (vv 1) (dv_int))) (dv_mul (dv_ix (vv 1) (dv_int)) (dv_ix (vv 0) (dv_int)))))), fun ss Qd hl h => pu__law_below h⟩
theorem ok__law_sum (T : Txt K mg) : FnD P w K mg base ρ 3 (He.ga K "_law_sum") (fdOf K "_law_sum") ["some"] sp__law_sum := FunD.data T.d__law_sum.F sc__law_sum (by decide) fun cdv A outer s H E W Ed ok hr => ⟨r__law_sum Ed, dss_cons (ds_set (i := 1) sc__law_sum.nd rfl (by first | exact Or.inl rfl | exact Or.inr rfl) (de_dv (dv_tup (da_d (dv_int) (da_d (dv_int) (da_nil)))))) (dss_cons (ds_for (passes_of rfl) rfl (di_seq (vv 0)) (dg_name (i := 2) sc__law_sum.nd rfl (by first | exact Or.inl rfl | exact Or.inr rfl)) (dss_one (ds_set (i := 1) sc__law_sum.nd rfl (by first | exact Or.inl rfl | exact Or.inr rfl) (de_dv (dv_frz (de_call (ok__law_add T) ok (hr.mono (by decide)) T.d__law_add.g T.d__law_add.F.kp (b__law_add T.d__law_add) (da_d (vv 1) (da_d (vv 2) (da_nil))))))))) (dss_one (ds_ret (de_dv (vv 1))))), fun ss Qd hl h => pu__law_sum h⟩
end
section
variable {P : Program} {w : World} {K : PySem.W.Frag} {mg : Str → Option Value} {base : Heap} {ρ : Hp → Prop} {st g c : Addr} {cs : List Int}
theorem ok__law_mixed (T : Txt K mg) : FnC P w K mg base (StK st g c cs) 1 1 (He.ga K "_law_mixed") (fdOf K "_law_mixed") ["state"] (sp__law_mixed st) := mixed_ok T.d__law_mixed.F sc__law_mixed rfl (Or.inl rfl) rfl (Or.inl rfl) (fun _ _ _ _ _ _ => rfl) fun cdv A outer s H E W kt hk ok ok2 hr => ⟨r1__law_mixed kt st, r__law_mixed st cs (fun _ => False), ds_par (i := 1) (j := 2) rfl sc__law_mixed.nd rfl rfl (by decide) rfl rfl (de_dv (dv_add (dv_turn (st := st) (g := g) (c := c) (cs := cs) rfl hr (vis_d (i := 0))) (dv_int))) (de_dv (dv_int)) rfl, dss_cons (ds_for (passes_of rfl) rfl (di_seq (dv_frz (de_lst (da_d (dv_int) (da_d (dv_int) (da_d (dv_int) (da_d (dv_int) (da_nil)))))))) (dg_name (i := 3) sc__law_mixed.nd rfl (by first | exact Or.inl rfl | exact Or.inr rfl)) (dss_cons (ds_set (i := 4) sc__law_mixed.nd rfl (by first | exact Or.inl rfl | exact Or.inr rfl) (de_dv (dv_add (dv_mul (dv_int) (vv 1)) (dv_div (vv 3) (dv_int))))) (dss_cons (ds_for (passes_of rfl) rfl (di_cells (st := st) (g := g) (c := c) (cs := cs) rfl hr (vis_d (i := 0))) (dg_name (i := 5) sc__law_mixed.nd rfl (by first | exact Or.inl rfl | exact Or.inr rfl)) (dss_one (ds_set (i := 4) sc__law_mixed.nd rfl (by first | exact Or.inl rfl | exact Or.inr rfl) (de_dv (dv_mod (dv_frz (de_callTy call_int1 dcall_int1 rfl T.b_int (by decide +kernel) (da_d (dv_add (dv_add (dv_mul (vv 4) (dv_int)) (vv 5)) (vv 1)) (da_nil)))) (vv 3)))))) (dss_one (ds_set (i := 2) sc__law_mixed.nd rfl (by first | exact Or.inl rfl | exact Or.inr rfl) (de_dv (dv_add (dv_mul (vv 2) (dv_int)) (dv_mod (dv_frz (de_callTy call_int1 dcall_int1 rfl T.b_int (by decide +kernel) (da_d (dv_pow (vv 4) (dv_int)) (da_nil)))) (vv 3))))))))) (dss_one (ds_ret (de_dv (vv 2)))), fun ss Qd hl h => pu__law_mixed hk h⟩
theorem ok__law_draw (T : Txt K mg) : FnC P w K mg base (StK st g c cs) 1 2 (He.ga K "_law_draw") (fdOf K "_law_draw") ["state", "room"] (sp__law_draw st) := FunD.dataC T.d__law_draw.F sc__law_draw stK_mono (by decide) fun cdv A outer s H E W ok hr => ⟨r__law_draw st cs (fun _ => False), _, kss_cons stK_mono (ks_if stK_mono (kt_of fun _ => dt_eq hr (dv_st (st := st) (g := g) (c := c) (cs := cs) rfl hr (vis_d (i := 0))) (dv_int)) (kss_one (ks_stPut hr (vis_d (i := 0)) (kv_pop hr (vis_d (i := 0)) (vis_d (i := 0)) (kv_frz (ke_call (ok__law_mixed T) ok (hr.mono (by decide)) T.d__law_mixed.g T.d__law_mixed.F.kp (b__law_mixed T.d__law_mixed) (ka_cons (ke_of fun _ => rv 0) (ka_nil))))))) (kss_nil)) (kss_of fun _ => dss_cons (ds_set (i := 2) sc__law_draw.nd rfl (by first | exact Or.inl rfl | exact Or.inr rfl) (de_dv (dv_mod (dv_frz (de_callTy call_int1 dcall_int1 rfl T.b_int (by decide +kernel) (da_d (dv_st (st := st) (g := g) (c := c) (cs := cs) rfl hr (vis_d (i := 0))) (da_nil)))) (vv 1)))) (dss_cons (ds_stPut (st := st) (g := g) (c := c) (cs := cs) rfl hr (vis_d (i := 0)) (dv_div (dv_st (st := st) (g := g) (c := c) (cs := cs) rfl hr (vis_d (i := 0))) (vv 1))) (dss_one (ds_ret (de_dv (vv 2)))))), by decide, fun ss Qd hl h => pu__law_draw h⟩
theorem ok__law_pick (T : Txt K mg) : FnC P w K mg base (StK st g c cs) 1 3 (He.ga K "_law_pick") (fdOf K "_law_pick") ["state", "some"] (sp__law_pick st) := FunD.dataC T.d__law_pick.F sc__law_pick stK_mono (by decide) fun cdv A outer s H E W ok hr => ⟨r__law_pick st cs (fun _ => False), _, kss_one (ks_ret stK_mono (ke_d (kv_ix (kv_of fun _ => vv 1) (kv_frz (ke_call (ok__law_draw T) ok (hr.mono (by decide)) T.d__law_draw.g T.d__law_draw.F.kp (b__law_draw T.d__law_draw) (ka_cons (ke_of fun _ => rv 0) (ka_d (kv_of fun _ => dv_frz (de_len T.b_len (da_d (vv 1) (da_nil)))) (ka_nil)))))))), by decide, fun ss Qd hl h => pu__law_pick h⟩
end
section
variable {P : Program} {w : World} {K : PySem.W.Frag} {mg : Str → Option Value} {base : Heap} {ρ : Hp → Prop}
theorem ok__law_plain (T : Txt K mg) : ∀ n, FnD P w K mg base ρ (n + 1) (He.ga K "_law_plain") (fdOf K "_law_plain") ["value"] (sp__law_plain n)
  | 0 => FunD.data T.d__law_plain.F sc__law_plain (by decide) fun cdv A outer s H E W Ed ok hr => ⟨tsNever, dss_never, fun ss Qd hl h => by obtain ⟨x, _, h, _⟩ := h; exact h.elim⟩
  | n + 1 => FunD.data T.d__law_plain.F sc__law_plain (by decide) fun cdv A outer s H E W Ed ok hr => ⟨r__law_plain n Ed, dss_cons (ds_if (dt_val (dv_isi2 (n := "list") (m := "tuple") T.b_isinstance T.b_list (by decide +kernel) (by decide) T.b_tuple (by decide +kernel) (by decide) (vv 0))) (dss_one (ds_ret (de_dv (dv_eq hr (dv_frz (de_lc rfl sc__law_plain.nd (di_seq (vv 0)) (blkOk_by (own := [("one", 1)]) (by kernel_rfl)) (fun _ _ _ _ _ => dgc_name (i := 1) sc__law_plain.nd rfl (by first | exact Or.inl rfl | exact Or.inr rfl)) (fun _ _ _ _ _ => dts_one (dt_not (dt_val (dv_frz (de_call (ok__law_plain T n) DC.blk_ok (hr.mono (Nat.le_refl _)) T.d__law_plain.g T.d__law_plain.F.kp (b__law_plain T.d__law_plain) (da_d (vv 1) (da_nil))))))) (fun _ _ _ _ _ => dv_int))) (dv_frz (de_lst (da_nil))))))) (dss_nil)) (dss_cons (ds_if (dt_val (dv_isi (n := "dict") T.b_isinstance T.b_dict (by decide +kernel) (by decide) (vv 0))) (dss_one (ds_never)) (dss_nil)) (dss_one (ds_ret (de_dv (dv_or (dv_isN (vv 0) (dv_non)) (dv_one (dv_isi2 (n := "int") (m := "str") T.b_isinstance T.b_int (by decide +kernel) (by decide) T.b_str (by decide +kernel) (by decide) (vv 0)))))))), fun ss Qd hl h => pu__law_plain h⟩
end
section
variable {P : Program} {w : World} {K : PySem.W.Frag} {mg : Str → Option Value} {base : Heap} {ρ : Hp → Prop} {st g c : Addr} {cs : List Int}
theorem ok__law_is (T : Txt K mg) : FnAt (Quiet 10) P w K mg base (He.ga K "_law_is") (fdOf K "_law_is") ["found", "due"] (LS K ρ 2 sp__law_is) := FunD.dataQ T.d__law_is.F sc__law_is (by decide) fun cdv A outer s H E W Ed ok hq => have hr := hq.1; ⟨r__law_is Ed, dss_one (ds_ret (de_dv (dv_and (dv_frz (de_call (ok__law_plain T 6) ok (hr.mono (by decide)) T.d__law_plain.g T.d__law_plain.F.kp (b__law_plain T.d__law_plain) (da_d (vv 0) (da_nil)))) (dv_and (dv_eq hr (vv 0) (vv 1)) (dv_and (dv_eq hr (vv 1) (vv 0)) (dv_one (dv_eqS (dv_frz (de_callB (cr_repr hq) dcall_repr rfl T.b_repr (by decide +kernel) (da_d (vv 0) (da_nil)))) (dv_frz (de_callB (cr_repr hq) dcall_repr rfl T.b_repr (by decide +kernel) (da_d (vv 1) (da_nil))))))))))), fun ss Qd hl h => pu__law_is h⟩
end
end DL

-- part P9
/-! k09: the promises, the readings -/
namespace DL
open PySem PySem.Spec PyProof.Rows L2 K09
local macro_rules | `(tactic| walk_at "dl") => `(tactic| simp only [tsSeq, tsAsg, tsIf, tsNext, tsRet, tsRetN, tsRetOwn, tsDrop, tsNever, tsPar, tsAug, toD, frz_eq, frzK_d, frzK_own, frzAt, tbBor, tvBor, tdB, tdCall, tvVar, tdVar, tvC, tv2, tvTup, tdLst, tvIf, tvAnd, tvOr, tvNot, tbOf, tbAnd, tbOr, tbNot, tgName, tgNil, tgCons, tgTup, arCons, arNil, dI, dAdd, dSub, dMul, dDiv, dDivA, dMod, dPow, dNeg, dCmp, dLt, dLe, dGt, dGe, dEq, dNe, dIsN, dNotN, dIx, dGcd, dAbs, dMax2, dMin2, dInt1, allD, noOwn, startD, fr, tvSt, tvTurn, tvPop, tsStPut, tiCells, tvIsi, tvIsi2, dRepr, dEqS, tvDget,
  List.map_cons, List.map_nil, List.length_cons, List.length_nil, Nat.reduceAdd, Nat.reduceSub, Nat.zero_add, List.replicate, List.cons_append, List.nil_append, List.getElem?_cons_zero, List.getElem?_cons_succ, List.set_cons_zero, List.set_cons_succ, Option.some.injEq, S.d.injEq, S.v.injEq, S.dic.injEq, PyData.int.injEq, PyData.bool.injEq, PyData.tuple.injEq, PyData.list.injEq, List.cons.injEq, exists_eq_left', exists_eq_left, exists_eq_right, true_and, and_true, Option.map_some, atI_0, atI_1, sL1, sL2, sL3, sL4, Option.map, eqv_int, shaped_int, dv_self, and_assoc, exists_and_left, decide_eq_true_eq])
def mf (ms : List Rat) (i : Nat) : Rat := ms.getD i 0
def wi (ws : List Int) (i : Nat) : Int := ws.getD i 0
def wf (ws : List Int) (i : Nat) : Rat := ((wi ws i : Int) : Rat)
def AA (ws : List Int) : List Nat := (List.range ws.length).filter fun i => decide (0 < wi ws i)
structure Dat (ms : List Rat) (ws : List Int) (c : Int) : Prop where
  len : ms.length = ws.length
  le : ws.length ≤ 16
  m0 : ∀ q ∈ ms, 0 ≤ q
  mo : ∀ q ∈ ms, Ok 20 q
  w0 : ∀ z ∈ ws, 0 ≤ z ∧ Bd 20 z
  c0 : 0 < c ∧ Bd 130 c
theorem getD_mem {α : Type} {xs : List α} {i : Nat} {d : α} (h : i < xs.length) : xs.getD i d ∈ xs ∧ xs[i]? = some (xs.getD i d) := by
  rw [List.getD_eq_getElem?_getD, List.getElem?_eq_getElem h]
  exact ⟨List.getElem_mem h, rfl⟩
theorem at_m {ms : List Rat} {i : Nat} (h : i < ms.length) : atI (ms.map fr) (i : Nat) = some (fr (mf ms i)) := atI_get (by
  rw [List.getElem?_map, (getD_mem (d := 0) h).2]
  rfl)
theorem at_w {ws : List Int} {i : Nat} (h : i < ws.length) : atI (ws.map PyData.int) (i : Nat) = some (.int (wi ws i)) := atI_get (by
  rw [List.getElem?_map, (getD_mem (d := 0) h).2]
  rfl)
section
variable {ms : List Rat} {ws : List Int} {c : Int}
theorem Dat.m (hD : Dat ms ws c) {i : Nat} (h : i < ws.length) : 0 ≤ mf ms i ∧ Ok 20 (mf ms i) := by
  have := (getD_mem (xs := ms) (d := 0) (by rw [hD.len]; exact h)).1
  exact ⟨hD.m0 _ this, hD.mo _ this⟩
theorem Dat.w (hD : Dat ms ws c) {i : Nat} (h : i < ws.length) : 0 ≤ wi ws i ∧ Bd 20 (wi ws i) := hD.w0 _ (getD_mem (xs := ws) (d := 0) h).1
theorem AA_mem {i : Nat} : i ∈ AA ws ↔ i < ws.length ∧ 0 < wi ws i := by
  unfold AA
  rw [List.mem_filter, List.mem_range, decide_eq_true_eq]
theorem AA_nodup : (AA ws).Nodup := (List.nodup_range).sublist List.filter_sublist
theorem AA_pos : ∀ i ∈ AA ws, 0 < wf ws i := fun i h => by
  have := (AA_mem.mp h).2
  unfold wf
  exact_mod_cast this
theorem AA_len : (AA ws).length ≤ ws.length := by
  have := List.length_filter_le (fun i => decide (0 < wi ws i)) (List.range ws.length)
  rw [List.length_range] at this
  exact this
theorem filterMap_if {α β : Type} (p : α → Bool) (f : α → β) : ∀ l : List α, l.filterMap (fun x => if p x = true then some (f x) else none) = (l.filter p).map f
  | [] => rfl
  | a :: l => by
    rw [List.filterMap_cons, List.filter_cons, filterMap_if p f l]
    by_cases h : p a = true
    · simp [h]
    · simp [h]
theorem enum_ws : enumD (ws.map PyData.int) = (List.range ws.length).map fun i => PyData.tuple [.int (i : Nat), .int (wi ws i)] := by
  unfold enumD
  refine List.ext_getElem (by simp) fun i h1 h2 => ?_
  have hi : i < ws.length := by simpa using h1
  simp only [List.getElem_mapIdx, List.getElem_map, List.getElem_range]
  unfold wi
  rw [List.getD_eq_getElem?_getD, List.getElem?_eq_getElem hi]
  rfl
end
def optD : Option Rat → D
  | none => .none
  | some q => fr q
/-- who pays, by his level -/
def pD (ms : List Rat) (ws : List Int) (i : Nat) : D := .tuple [fr (mf ms i / wf ws i), .int (i : Nat)]
def sp_rate_for : SpD := fun ss Q _ => ∃ ms ws c, ss = [.d (.tuple (ms.map fr)), .d (.list (ws.map PyData.int)), .d (.int c)] ∧ Dat ms ws c ∧ ∀ r, IsRate (mf ms) (wf ws) (AA ws) c r → (∀ q, r = some q → Ok 600 q) → Q (.d (optD r))
def rb_rate_for_0 (Ed : XD → Prop) : TSD := tsAsg (toD (tvIf (tbOf (frz (tdCall 2 sp_is_less Ed (arCons (toD (tv2 dIx (tvVar 7) (tvC (.int 0)))) (arCons (toD (tv2 dIx (tvVar 6) (tvC (.int 0)))) (arNil)))))) (tvVar 7) (tvVar 6))) (tgName 6)
def rb_rate_for_1 (Ed : XD → Prop) : TSD := tsSeq (tsAsg (toD (tvBor 3 (tv2 dIx (tvVar 3) (tvC (.int 0))))) (tgName 6)) (tsSeq (tsForOwn 3 (tgName 7) (rb_rate_for_0 Ed)) (tsSeq (tsAsg (toD (frz (tdCall 2 sp_lowest Ed (arCons (toD (tv2 dIx (tvVar 4) (tvC (.int 0)))) (arCons (toD (tv2 dMul (tv2 dIx (tvVar 4) (tvC (.int 1))) (tvVar 5))) (arNil)))))) (tgName 8)) (tsSeq (tsIf (tbNot (tbOf (frz (tdCall 2 sp_is_less Ed (arCons (toD (tv2 dIx (tvVar 6) (tvC (.int 0)))) (arCons (toD (tvVar 8)) (arNil))))))) (tsRet (toD (tvVar 8))) (tsNext)) (tsSeq (tsM1 3 dRem (tvVar 6)) (tsPar 4 5 (toD (frz (tdCall 2 sp_minus Ed (arCons (toD (tvVar 4)) (arCons (toD (tv2 dIx (tvVar 0) (tv2 dIx (tvVar 6) (tvC (.int 1))))) (arNil)))))) (toD (tv2 dSub (tvVar 5) (tv2 dIx (tvVar 1) (tv2 dIx (tvVar 6) (tvC (.int 1)))))))))))
def rw_rate_for_2 (Ed : XD → Prop) : TB := tbOf (tvC (.bool true))
def r_rate_for (Ed : XD → Prop) : TSD := tsSeq (tsAsg (tdLc (tiEnum (tvVar 1)) (tgTup 2 (tgCons (tgName 9) (tgCons (tgName 10) (tgNil)))) (tbOf (tv2 dGt (tvVar 10) (tvC (.int 0)))) (tvTup (arCons (toD (frz (tdCall 2 sp_over (fun _ => False) (arCons (toD (tv2 dIx (tvVar 0) (tvVar 9))) (arCons (toD (tvTup (arCons (toD (tvVar 10)) (arCons (toD (tvC (.int 1))) (arNil))))) (arNil)))))) (arCons (toD (tvVar 9)) (arNil)))) [9, 10]) (tgName 3)) (tsSeq (tsIf (tbBor 3 (tbOr (tbOf (tv2 dEq (tvVar 3) (frz (tdLst (arNil))))) (tbOf (frz (tdCall 2 sp_is_less Ed (arCons (toD (frz (tdCall 1 sp_total Ed (arCons (toD (frz (tdLc (tiSeq (tvVar 3)) (tgTup 2 (tgCons (tgName 11) (tgCons (tgName 9) (tgNil)))) (tbYes) (tv2 dIx (tvVar 0) (tvVar 9)) [9, 11]))) (arNil))))) (arCons (toD (tvTup (arCons (toD (tvVar 2)) (arCons (toD (tvC (.int 1))) (arNil))))) (arNil)))))))) (tsRet (toD (tvC .none))) (tsNext)) (tsSeq (tsPar 4 5 (toD (tvTup (arCons (toD (tvVar 2)) (arCons (toD (tvC (.int 1))) (arNil))))) (toD (frz (tdB dSum (arCons (toD (tvVar 1)) (arNil)))))) (tsWhile (rw_rate_for_2 Ed) (rb_rate_for_1 Ed))))
theorem dv_nd (q : Rat) : dv q.num (q.den : Nat) = q := dv_self q
theorem intR (i : Int) : dv i 1 = ((i : Int) : Rat) := qv_one i
theorem Ok.div {m n : Nat} {q : Rat} {z : Int} (h : Ok m q) (hz : 0 < z) (hb : Bd n z) : Ok (m + n) (q / ((z : Int) : Rat)) := by
  have e : q / ((z : Int) : Rat) = dv q.num (q.den * z) := by
    conv => lhs; rw [← dv_self q]
    rw [show dv q.num q.den = (q.num : Rat) / ((q.den : Int) : Rat) from Rat.divInt_eq_div _ _, show dv q.num (q.den * z) = (q.num : Rat) / ((q.den * z : Int) : Rat) from Rat.divInt_eq_div _ _, Rat.intCast_mul]
    have h1 : (((q.den : Nat) : Int) : Rat) ≠ 0 := by exact_mod_cast den_ne q
    have h2 : ((z : Int) : Rat) ≠ 0 := by exact_mod_cast (show z ≠ 0 by omega)
    grind
  rw [e]
  exact ok_dv (Int.mul_ne_zero (den_ne q) (by omega)) (h.bd.1.mono (by omega)) (h.bd.2.mul hb)
theorem lev_ok {ms : List Rat} {ws : List Int} {c : Int} (hD : Dat ms ws c) {i : Nat} (h : i ∈ AA ws) : dv (mf ms i).num (mf ms i).den / dv (wi ws i) 1 = mf ms i / wf ws i ∧ Ok 40 (mf ms i / wf ws i) := by
  obtain ⟨h1, h2⟩ := AA_mem.mp h
  refine ⟨by rw [dv_nd, intR]; rfl, (hD.m h1).2.div h2 (hD.w h1).2⟩
theorem shN_fr (q : Rat) : shN 2 (fr q) := shN_tup fun x hx => by
  rcases List.mem_cons.mp hx with e | e
  · subst e; exact shN_int
  · rcases List.mem_cons.mp e with e | e
    · subst e; exact shN_int
    · cases e
theorem shN_pD (ms : List Rat) (ws : List Int) (i : Nat) : shN 3 (pD ms ws i) := shN_tup fun x hx => by
  rcases List.mem_cons.mp hx with e | e
  · subst e; exact shN_fr _
  · rcases List.mem_cons.mp e with e | e
    · subst e; exact shN_int.mono (by decide)
    · cases e
theorem shN_pDs (ms : List Rat) (ws : List Int) (P : List Nat) : shN 4 (.list (P.map (pD ms ws))) := shN_list fun x hx => by
  obtain ⟨i, _, rfl⟩ := List.mem_map.mp hx
  exact shN_pD ms ws i
theorem plainAll_pD {ms : List Rat} {ws : List Int} : ∀ {P : List Nat}, PyData.plainAll (P.map (pD ms ws)) = true
  | [] => rfl
  | a :: P => by
    rw [List.map_cons, PyData.plainAll, plainAll_pD, Bool.and_true]
    rfl
theorem eqv_nil {l : List D} : PyData.eqv (.list l) (.list []) = decide (l = []) := by
  cases l with
  | nil => rfl
  | cons x l => rw [PyData.eqv, PyData.eqvAll]; simp
theorem eqv_pD {ms : List Rat} {ws : List Int} {i j : Nat} (h : i ≠ j) : PyData.eqv (pD ms ws i) (pD ms ws j) = false := by
  unfold pD fr
  simp only [PyData.eqv, PyData.eqvAll]
  have : ((i : Int) == (j : Int)) = false := by rw [beq_eq_false_iff_ne]; omega
  simp [this]
theorem place_pD {ms : List Rat} {ws : List Int} {f : Nat} : ∀ {P : List Nat}, f ∈ P → ∃ k, SeqAt.dataPlace (P.map (pD ms ws)) (pD ms ws f) = some k ∧ (P.map (pD ms ws)).eraseIdx k = (P.erase f).map (pD ms ws)
  | a :: P, h => by
    unfold SeqAt.dataPlace
    by_cases e : a = f
    · subst e
      refine ⟨0, ?_, by simp⟩
      rw [List.map_cons, List.findIdx?_cons, SeqAt.eqv_refl _ (shN_pD ms ws a).1]
      rfl
    · have hm : f ∈ P := by
        rcases List.mem_cons.mp h with z | z
        · exact absurd z.symm e
        · exact z
      obtain ⟨k, h1, h2⟩ := place_pD (ms := ms) (ws := ws) hm
      unfold SeqAt.dataPlace at h1
      refine ⟨k + 1, ?_, ?_⟩
      · rw [List.map_cons, List.findIdx?_cons, eqv_pD e, h1]
        rfl
      · rw [List.map_cons, List.eraseIdx_cons_succ, h2, List.erase_cons, if_neg (by simpa using e), List.map_cons]
theorem nl_pD {ms : List Rat} {ws : List Int} {i : Nat} : noList (pD ms ws i) = true := rfl
/-- the walk over those who pay: the least level -/
theorem first_loop {ms : List Rat} {ws : List Int} {c : Int} (hD : Dat ms ws c) {P : List Nat} (hP : ∀ i ∈ P, i ∈ AA ws) {f0 : Nat} (hf : f0 ∈ P) {p : Addr} {Ed : XD → Prop} {E : EndsD} {a0 a1 a2 a4 a5 a7 a8 a9 a10 a11 : Option S}
    (q : ∀ f x7, f ∈ P → (∀ i ∈ P, mf ms f / wf ws f ≤ mf ms i / wf ws i) → E.nx [a0, a1, a2, some (.own p (P.map (pD ms ws))), a4, a5, some (.d (pD ms ws f)), x7, a8, a9, a10, a11]) :
    forOwnWP 3 p (P.map (pD ms ws)) (tgName 7) (rb_rate_for_0 Ed) E (P.map (pD ms ws)) [a0, a1, a2, some (.own p (P.map (pD ms ws))), a4, a5, some (.d (pD ms ws f0)), a7, a8, a9, a10, a11] := by
  refine forOwnWP_of (fun l δ => ∃ pre L f x7, l = L.map (pD ms ws) ∧ P = pre ++ L ∧ f ∈ P ∧ (∀ i ∈ pre, mf ms f / wf ws f ≤ mf ms i / wf ws i) ∧ δ = [a0, a1, a2, some (.own p (P.map (pD ms ws))), a4, a5, some (.d (pD ms ws f)), x7, a8, a9, a10, a11]) _ _
    ⟨[], P, f0, a7, rfl, rfl, hf, (fun i hi => by cases hi), rfl⟩ ?_ ?_ ?_ ?_
  · rintro l δ ⟨pre, L, f, x7, _, _, _, _, rfl⟩
    rfl
  · intro x hx
    obtain ⟨i, _, rfl⟩ := List.mem_map.mp hx
    rfl
  · rintro δ ⟨pre, L, f, x7, e1, e2, e3, e4, rfl⟩
    have : L = [] := by simpa using e1.symm
    subst this
    exact q f x7 e3 fun i hi => e4 i (by rw [e2] at hi; simpa using hi)
  · rintro x r δ ⟨pre, L, f, x7, e1, e2, e3, e4, rfl⟩ T hT
    cases L with
    | nil => cases e1
    | cons i L =>
      rw [List.map_cons] at e1
      cases e1
      have hi : i ∈ P := by rw [e2]; simp
      have l1 := (lev_ok hD (hP i hi)).2
      have l2 := (lev_ok hD (hP f e3)).2
      unfold rb_rate_for_0 sp_is_less sp_pair pD
      walk_at "dl"
      refine ⟨fr_pr l1 (by decide), fr_pr l2 (by decide), ?_⟩
      split
      · rename_i hlt
        exact hT _ ⟨pre ++ [i], L, i, _, rfl, by rw [e2]; simp, hi, (fun j hj => by
          rcases List.mem_append.mp hj with z | z
          · have := e4 j z; grind
          · have : j = i := by simpa using z
            subst this; grind), rfl⟩
      · rename_i hlt
        exact hT _ ⟨pre ++ [i], L, f, _, rfl, by rw [e2]; simp, e3, (fun j hj => by
          rcases List.mem_append.mp hj with z | z
          · exact e4 j z
          · have : j = i := by simpa using z
            subst this; grind), rfl⟩
theorem payers {ms : List Rat} {ws : List Int} {c : Int} (hD : Dat ms ws c) {Q : List D → Prop} {δ : Sl} (h0 : δ[0]? = some (some (.d (.tuple (ms.map fr))))) (hl : δ.length = 12) (q : Q ((AA ws).map (pD ms ws))) :
    compWP (tgTup 2 (tgCons (tgName 9) (tgCons (tgName 10) (tgNil)))) (tbOf (tv2 dGt (tvVar 10) (tvC (.int 0)))) (tvTup (arCons (toD (frz (tdCall 2 sp_over (fun _ => False) (arCons (toD (tv2 dIx (tvVar 0) (tvVar 9))) (arCons (toD (tvTup (arCons (toD (tvVar 10)) (arCons (toD (tvC (.int 1))) (arNil))))) (arNil)))))) (arCons (toD (tvVar 9)) (arNil)))) δ Q (enumD (ws.map PyData.int)) [] := by
  refine compWP_of (fun x => match x with
    | .tuple [.int i, .int z] => if decide (0 < z) = true then some (pD ms ws i.toNat) else none
    | _ => none) _ _ (fun x hx K hK => ?_) ?_
  · rw [enum_ws] at hx
    obtain ⟨i, hi, rfl⟩ := List.mem_map.mp hx
    have hi : i < ws.length := List.mem_range.mp hi
    match δ, hl, h0 with
    | [a0, a1, a2, a3, a4, a5, a6, a7, a8, a9, a10, a11], _, h0 =>
      have h0 : a0 = some (.d (.tuple (ms.map fr))) := by simpa using h0
      subst h0
      unfold sp_over sp_pair
      walk_at "dl"
      by_cases hz : 0 < wi ws i
      · have hA : i ∈ AA ws := AA_mem.mpr ⟨hi, hz⟩
        simp only [hz, if_true, decide_true] at hK ⊢
        have hm : atI (ms.map fr) (i : Nat) = some (fr (mf ms i)) := at_m (by rw [hD.len]; exact hi)
        refine ⟨_, hm, ?_⟩
        simp only [fr]
        have lv := lev_ok hD hA
        have ho := (hD.m hi).2
        refine ⟨fr_pr ho (by decide), pr_one (hD.w hi).2 (by decide), by omega, ?_⟩
        rw [lv.1]
        exact hK
      · simp only [hz, if_false, decide_false, Bool.false_eq_true] at hK ⊢
        exact hK
  · rw [enum_ws, List.filterMap_map]
    simp only [Function.comp_def]
    rw [show (fun i : Nat => if decide (0 < wi ws i) = true then some (pD ms ws ((i : Nat) : Int).toNat) else none) = fun i => if decide (0 < wi ws i) = true then some (pD ms ws i) else none from rfl]
    rw [filterMap_if]
    exact q
theorem Ok.sub {m n : Nat} {p q : Rat} (h : Ok m p) (h' : Ok n q) : Ok (m + n + 1) (p - q) := by
  rw [Rat.sub_eq_add_neg]
  exact h.add h'.neg
/-- ahead of each turn -/
def RInv (ms : List Rat) (ws : List Int) (c : Int) (p : Addr) (m : Nat) (δ : Sl) : Prop := ∃ (P : List Nat) (o : Rat) (t : Int) (b6 b7 b8 b9 b10 b11 : Option S), m = P.length ∧ P.length ≤ (AA ws).length ∧ K09.Inv (mf ms) (wf ws) (AA ws) c P o (t : Rat) ∧ Ok (131 + 21 * ((AA ws).length - P.length)) o ∧ Bd 25 t ∧
    δ = [some (.d (.tuple (ms.map fr))), some (.d (.list (ws.map PyData.int))), some (.d (.int c)), some (.own p (P.map (pD ms ws))), some (.d (fr o)), some (.d (.int t)), b6, b7, b8, b9, b10, b11]
theorem rate_turn {ms : List Rat} {ws : List Int} {c : Int} (hD : Dat ms ws c) (hc : (c : Rat) ≤ sumOn (mf ms) (AA ws)) {p : Addr} {Ed : XD → Prop} {E : EndsD} {Qd : S → Prop} (hE : E.rt = Qd)
    (q : ∀ r, IsRate (mf ms) (wf ws) (AA ws) c (some r) → Ok 600 r → Qd (.d (fr r))) {P : List Nat} {o : Rat} {t : Int} {b6 b7 b8 b9 b10 b11 : Option S} (hl : P.length ≤ (AA ws).length) (inv : K09.Inv (mf ms) (wf ws) (AA ws) c P o (t : Rat)) (oo : Ok (131 + 21 * ((AA ws).length - P.length)) o) (bt : Bd 25 t)
    (hnx : ∀ m δ, m < P.length → RInv ms ws c p m δ → E.nx δ) :
    rb_rate_for_1 Ed E [some (.d (.tuple (ms.map fr))), some (.d (.list (ws.map PyData.int))), some (.d (.int c)), some (.own p (P.map (pD ms ws))), some (.d (fr o)), some (.d (.int t)), b6, b7, b8, b9, b10, b11] := by
  have lA : (AA ws).length ≤ 16 := Nat.le_trans AA_len hD.le
  have tp : (0 : Rat) < (t : Rat) := inv.tpos AA_pos
  have tpi : 0 < t := by exact_mod_cast tp
  have P0 : P ≠ [] := inv.ne
  obtain ⟨f0, P', eP⟩ : ∃ f0 P', P = f0 :: P' := by
    cases P with
    | nil => exact absurd rfl P0
    | cons a l => exact ⟨a, l, rfl⟩
  have hf0 : f0 ∈ P := by rw [eP]; exact List.mem_cons_self ..
  have at0 : atI (P.map (pD ms ws)) 0 = some (pD ms ws f0) := by rw [eP, List.map_cons]; exact atI_0
  have oo' : Ok 500 o := oo.mono (by omega)
  have rb : dv o.num ((o.den : Nat) * t) = o / (t : Rat) := by
    rw [show dv o.num ((o.den : Nat) * t) = (o.num : Rat) / (((o.den : Nat) * t : Int) : Rat) from Rat.divInt_eq_div _ _, Rat.intCast_mul]
    conv => rhs; rw [← dv_self o, show dv o.num o.den = (o.num : Rat) / ((o.den : Int) : Rat) from Rat.divInt_eq_div _ _]
    have h1 : (((o.den : Nat) : Int) : Rat) ≠ 0 := by exact_mod_cast den_ne o
    grind
  have ro : Ok 525 (o / (t : Rat)) := oo'.div tpi bt
  unfold rb_rate_for_1 tsForOwn
  simp only [fr]
  walk_at "dl"
  refine ⟨_, at0, rfl, ?_⟩
  refine ⟨p, _, rfl, ?_⟩
  refine first_loop hD (fun i hi => inv.sub i hi) hf0 fun f x7 hf hmin => ?_
  have lf := lev_ok hD (inv.sub f hf)
  unfold sp_lowest
  walk_at "dl"
  have bm := (oo'.bd.2.mul bt)
  refine ⟨(oo'.bd.2.cmul bt (by decide)).ok, Int.mul_ne_zero (den_ne o) (by omega), bm.mono (by decide), ?_⟩
  rw [rb]
  simp only [pD]
  unfold sp_is_less sp_pair tsM1 dRem
  walk_at "dl"
  refine ⟨fr_pr lf.2 (by decide), fr_pr ro (by decide), ?_⟩
  by_cases hlt : mf ms f / wf ws f < o / (t : Rat)
  · simp only [hlt, decide_true, Bool.not_true, Bool.false_eq_true, if_false]
    obtain ⟨k, k1, k2⟩ := place_pD (ms := ms) (ws := ws) hf
    have fA := inv.sub f hf
    have fl := (AA_mem.mp fA).1
    have wp := AA_pos f fA
    refine ⟨p, _, rfl, plainAll_pD, rfl, Nat.le_trans (shN_pD ms ws f).2 (by decide), k, k1, _, at_m (by rw [hD.len]; exact fl), ?_⟩
    unfold sp_minus sp_pair
    walk_at "dl"
    refine ⟨fr_pr oo' (by decide), fr_pr (hD.m fl).2 (by decide), _, at_w fl, ?_⟩
    have hm : mf ms f * (t : Rat) < o * wf ws f := by
      have a1 := (K09.div_lt' wp).mp hlt
      have a2 : o / (t : Rat) * wf ws f * t = o * wf ws f := by grind
      have a3 := Rat.mul_lt_mul_of_pos_right a1 tp
      grind
    have st := inv.step AA_pos hf hm
    have lP : (P.erase f).length = P.length - 1 := List.length_erase_of_mem hf
    have pP : 0 < P.length := List.length_pos_iff.mpr P0
    have ew : ((t - wi ws f : Int) : Rat) = (t : Rat) - wf ws f := Rat.intCast_sub _ _
    have tp2 : (0 : Rat) < ((t - wi ws f : Int) : Rat) := by rw [ew]; exact st.tpos AA_pos
    have tp3 : 0 < t - wi ws f := by exact_mod_cast tp2
    have w0 := (hD.w fl).1
    refine hnx (P.erase f).length _ (by omega) ⟨P.erase f, o - mf ms f, t - wi ws f, some (.d (pD ms ws f)), x7, some (.d (fr (o / (t : Rat)))), b9, b10, b11, rfl, by omega, by rw [ew]; exact st, (oo.sub (hD.m fl).2).mono (by omega), ?_, ?_⟩
    · unfold Bd at bt ⊢
      omega
    · rw [← k2]
      rfl
  · simp only [hlt, decide_false, Bool.not_false, if_true]
    rw [hE]
    refine q _ ?_ (ro.mono (by decide))
    refine inv.done AA_pos hc AA_nodup fun i hi => ?_
    have h1 := hmin i hi
    have wp := AA_pos i (inv.sub i hi)
    have a2 : o / (t : Rat) ≤ mf ms i / wf ws i := by grind
    have a3 : ¬ mf ms i / wf ws i < o / (t : Rat) := by grind
    rw [K09.div_lt' wp] at a3
    have a4 : o / (t : Rat) * wf ws i ≤ mf ms i := by grind
    have a5 := Rat.mul_le_mul_of_nonneg_right a4 (Rat.le_of_lt tp)
    have a6 : o / (t : Rat) * wf ws i * t = o * wf ws i := by grind
    grind
theorem rate_loop {ms : List Rat} {ws : List Int} {c : Int} (hD : Dat ms ws c) (neA : AA ws ≠ []) (hc : (c : Rat) ≤ sumOn (mf ms) (AA ws)) {T : Int} (hT : ((T : Int) : Rat) = sumOn (wf ws) (AA ws)) (bT : Bd 25 T) {p : Addr} {Ed : XD → Prop} {E : EndsD} {Qd : S → Prop} (hE : E.rt = Qd) {a6 a7 a8 a9 a10 a11 : Option S}
    (q : ∀ r, IsRate (mf ms) (wf ws) (AA ws) c (some r) → Ok 600 r → Qd (.d (fr r))) :
    tsWhile (rw_rate_for_2 Ed) (rb_rate_for_1 Ed) E [some (.d (.tuple (ms.map fr))), some (.d (.list (ws.map PyData.int))), some (.d (.int c)), some (.own p ((AA ws).map (pD ms ws))), some (.d (.tuple [.int c, .int 1])), some (.d (.int T)), a6, a7, a8, a9, a10, a11] := by
  have ec : (PyData.tuple [.int c, .int 1]) = fr ((c : Int) : Rat) := by unfold fr; rw [Rat.num_intCast, Rat.den_intCast]; rfl
  unfold tsWhile
  refine ⟨RInv ms ws c p, ⟨(AA ws).length, AA ws, (c : Rat), T, a6, a7, a8, a9, a10, a11, rfl, Nat.le_refl _, ⟨fun i h => h, AA_nodup, neA, by exact_mod_cast hD.c0.1, hc, by grind, hT, fun i h h' => absurd h h'⟩, (ok_int hD.c0.2 (by decide)).mono (by omega), bT, by rw [ec]⟩, ?_⟩
  rintro m δ ⟨P, o, t, b6, b7, b8, b9, b10, b11, rfl, hl, inv, oo, bt, rfl⟩
  have key := rate_turn hD hc (Ed := Ed) (E := { E with nx := fun δ' => ∃ m', m' < P.length ∧ RInv ms ws c p m' δ', ct := fun δ' => ∃ m', m' < P.length ∧ RInv ms ws c p m' δ', bk := E.nx }) (b6 := b6) (b7 := b7) (b8 := b8) (b9 := b9) (b10 := b10) (b11 := b11) (p := p) hE q hl inv oo bt (fun m δ hm h => ⟨m, hm, h⟩)
  unfold rw_rate_for_2 tbOf tvC
  refine ⟨true, rfl, ?_⟩
  simp only [if_true]
  exact key
theorem ok_sum {a : Nat} : ∀ {qs : List Rat}, (∀ q ∈ qs, Ok a q) → Ok (1 + (a + 1) * qs.length) qs.sum
  | [], _ => by
    rw [List.sum_nil]
    exact ⟨Nat.pow_pos (by decide), Nat.one_lt_two_pow (by omega)⟩
  | q :: qs, h => by
    rw [List.sum_cons]
    have h1 := (h q (List.mem_cons_self ..)).add (ok_sum (qs := qs) fun z hz => h z (List.mem_cons_of_mem _ hz))
    refine h1.mono ?_
    rw [List.length_cons, Nat.mul_succ]
    omega
theorem cast_sum (f : Nat → Int) : ∀ A : List Nat, (((A.map f).sum : Int) : Rat) = sumOn (fun i => ((f i : Int) : Rat)) A
  | [] => rfl
  | a :: A => by rw [List.map_cons, List.sum_cons, Rat.intCast_add, cast_sum f A, sum_cons]
theorem ws_map (ws : List Int) : (List.range ws.length).map (wi ws) = ws := by
  refine List.ext_getElem (by simp) fun i h1 h2 => ?_
  have hi : i < ws.length := by simpa using h1
  simp only [List.getElem_map, List.getElem_range]
  unfold wi
  rw [List.getD_eq_getElem?_getD, List.getElem?_eq_getElem hi]
  rfl
theorem sum_zero {f : Nat → Rat} : ∀ {A : List Nat}, (∀ i ∈ A, f i = 0) → sumOn f A = 0
  | [], _ => rfl
  | a :: A, h => by
    rw [sum_cons, h a (List.mem_cons_self ..), sum_zero (A := A) fun i hi => h i (List.mem_cons_of_mem _ hi)]
    grind
/-- what the worthless have goes for nothing -/
theorem sum_all {f : Nat → Rat} {ws : List Int} (h : ∀ i < ws.length, ¬ 0 < wi ws i → f i = 0) : sumOn f (List.range ws.length) = sumOn f (AA ws) := by
  rw [sum_split f (fun i => decide (0 < wi ws i)) (List.range ws.length)]
  rw [sum_zero (A := (List.range ws.length).filter fun i => !decide (0 < wi ws i)) fun i hi => by
    rw [List.mem_filter, List.mem_range] at hi
    exact h i hi.1 (by simpa using hi.2)]
  unfold AA
  grind
theorem worths {ms : List Rat} {ws : List Int} {c : Int} (hD : Dat ms ws c) : ((ws.sum : Int) : Rat) = sumOn (wf ws) (AA ws) ∧ Bd 25 ws.sum := by
  refine ⟨?_, ?_⟩
  · conv => lhs; rw [← ws_map ws]
    rw [cast_sum, ← sum_all (f := wf ws) (ws := ws) fun i hi h => by
      have := (hD.w hi).1
      have e : wi ws i = 0 := by omega
      unfold wf
      rw [e]
      rfl]
    rfl
  · have key : ∀ zs : List Int, (∀ z ∈ zs, 0 ≤ z ∧ Bd 20 z) → 0 ≤ zs.sum ∧ zs.sum ≤ zs.length * 2 ^ 20 := by
      intro zs
      induction zs with
      | nil => intro _; exact ⟨Int.le_refl _, by simp⟩
      | cons z zs ih =>
        intro h
        have h1 := h z (List.mem_cons_self ..)
        have h2 := ih fun y hy => h y (List.mem_cons_of_mem _ hy)
        unfold Bd at h1
        rw [List.sum_cons, List.length_cons]
        have e : (2 : Nat) ^ 20 = 1048576 := by decide
        have e2 : (2 : Int) ^ 20 = 1048576 := by decide
        rw [e] at h1
        rw [e2] at h2 ⊢
        omega
    have := key ws hD.w0
    have hl := hD.le
    unfold Bd
    have e : (2 : Nat) ^ 25 = 33554432 := by decide
    have e2 : (2 : Int) ^ 20 = 1048576 := by decide
    rw [e]
    rw [e2] at this
    omega
theorem pu_rate_for {ss : List S} {Qd : S → Prop} {Ed : XD → Prop} (h : sp_rate_for ss Qd Ed) : r_rate_for Ed { nx := fun _ => Qd (.d .none), rt := Qd } (startD ["moneys", "row", "cost", "payers", "owed", "worths", "first", "one", "rate", "at", "worth", "level"] ss) := by
  obtain ⟨ms, ws, c, rfl, hD, q⟩ := h
  have lw := hD.le
  have lA : (AA ws).length ≤ 16 := Nat.le_trans AA_len hD.le
  have sz : 16 < sizeLine := by decide
  unfold r_rate_for tdLc tiEnum
  walk_at "dl"
  refine ⟨ws.map PyData.int, rfl, by rw [List.length_map]; omega, ?_, ?_⟩
  · unfold enumD
    rw [List.length_mapIdx, List.length_map]
    omega
  refine payers hD rfl rfl fun p => ?_
  unfold tiSeq
  walk_at "dl"
  refine ⟨Nat.zero_le _, fun p1 => ⟨(shN_pDs ms ws _).shaped (by decide), rfl, ?_⟩⟩
  rw [eqv_nil]
  by_cases hA : AA ws = []
  · rw [if_pos (by simp [hA])]
    simp only [if_true]
    exact q none (.inl hA) (fun _ z => nomatch z)
  · rw [if_neg (by simp [hA])]
    refine ⟨(AA ws).map (pD ms ws), rfl, by rw [List.length_map]; omega, by rw [List.length_map]; omega, ?_⟩
    refine compWP_of (fun x => match x with
      | .tuple [_, .int i] => some (fr (mf ms i.toNat))
      | _ => none) _ _ (fun x hx K hK => ?_) ?_
    · obtain ⟨i, hi, rfl⟩ := List.mem_map.mp hx
      have il := (AA_mem.mp hi).1
      unfold tbYes wipeD pD
      simp only [wipeD]
      walk_at "dl"
      rw [if_pos trivial]
      exact ⟨_, at_m (by rw [hD.len]; exact il), hK⟩
    · have em : List.filterMap (fun x => match x with
        | PyData.tuple [_, .int i] => some (fr (mf ms i.toNat))
        | _ => none) ((AA ws).map (pD ms ws)) = ((AA ws).map (mf ms)).map fr := by
        rw [List.filterMap_map, List.map_map]
        show List.filterMap (fun i => some (fr (mf ms i))) (AA ws) = _
        rw [List.filterMap_eq_map']
        rfl
      rw [List.nil_append, em]
      have oks : ∀ z ∈ (AA ws).map (mf ms), Ok 20 z := fun z hz => by
        obtain ⟨i, hi, rfl⟩ := List.mem_map.mp hz
        exact (hD.m (AA_mem.mp hi).1).2
      have os := ok_sum oks
      rw [List.length_map] at os
      refine fun p2 => ⟨_, _, rfl, rfl, ⟨20, oks, by rw [List.length_map]; omega⟩, ?_⟩
      unfold sp_is_less sp_pair
      walk_at "dl"
      refine ⟨fr_pr (os.mono (n := 400) (by omega)) (by decide), pr_one hD.c0.2 (by decide), ?_⟩
      rw [intR]
      by_cases hlt : ((AA ws).map (mf ms)).sum < (c : Rat)
      · simp only [hlt, decide_true, if_true]
        exact q none (.inr hlt) (fun _ z => nomatch z)
      · simp only [hlt, decide_false, Bool.false_eq_true, if_false]
        have hw := worths hD
        refine ⟨ws, rfl, ?_⟩
        refine rate_loop hD hA (by show _ ≤ ((AA ws).map (mf ms)).sum; grind) hw.1 hw.2 rfl fun r hr ho => ?_
        exact q (some r) hr (fun z e => by cases e; exact ho)
/-- .. over the whole numbers L, those with p -/
theorem comp_ints {g : TGD} {tt : TB} {te : TV} {δ : Sl} {Q : List D → Prop} {L : List Nat} (p : Nat → Bool) (h : ∀ i ∈ L, ∀ K : Option D → Prop, K (if p i = true then some (.int (i : Nat)) else none) → g (.d (.int (i : Nat))) δ fun δ' => tt δ' fun b => if b = true then te δ' fun y => K (some y) else K none)
    (q : Q ((L.filter p).map fun i => PyData.int (i : Nat))) : compWP g tt te δ Q (L.map fun i => PyData.int (i : Nat)) [] := by
  refine compWP_of (fun x => match x with
    | .int i => if p i.toNat = true then some (.int i) else none
    | _ => none) _ _ (fun x hx K hK => ?_) ?_
  · obtain ⟨i, hi, rfl⟩ := List.mem_map.mp hx
    exact h i hi K hK
  · rw [List.nil_append, List.filterMap_map]
    show Q (List.filterMap (fun i : Nat => if p i = true then some (PyData.int (i : Nat)) else none) L)
    rw [filterMap_if]
    exact q
/-- .. over the whole numbers L, each told -/
theorem comp_map {g : TGD} {te : TV} {δ : Sl} {Q : List D → Prop} {L : List Nat} (f : Nat → D) (h : ∀ i ∈ L, ∀ K : D → Prop, K (f i) → g (.d (.int (i : Nat))) δ fun δ' => te δ' K)
    (q : Q (L.map f)) : compWP g tbYes te δ Q (L.map fun i => PyData.int (i : Nat)) [] := by
  refine compWP_of (fun x => match x with
    | .int i => some (f i.toNat)
    | _ => none) _ _ (fun x hx K hK => ?_) ?_
  · obtain ⟨i, hi, rfl⟩ := List.mem_map.mp hx
    unfold tbYes
    simp only [if_true]
    exact h i hi (fun y => K (some y)) hK
  · rw [List.nil_append, List.filterMap_map]
    show Q (List.filterMap (fun i : Nat => some (f i)) L)
    rw [List.filterMap_eq_map']
    exact q
/-! ### payments -/
def payD (ms : List Rat) (ws : List Int) (q : Rat) : D := .tuple ((List.range ws.length).map fun i => fr (give (mf ms) (wf ws) q i))
def sp_payments_at : SpD := fun ss Q _ => ∃ ms ws c q, ss = [.d (.tuple (ms.map fr)), .d (.list (ws.map PyData.int)), .d (fr q)] ∧ Dat ms ws c ∧ Ok 600 q ∧ Q (.d (payD ms ws q))
def sp__law_paid : SpD := sp_payments_at
theorem zip_ws {ms : List Rat} {ws : List Int} {c : Int} (hD : Dat ms ws c) : zipD (ms.map fr) (ws.map PyData.int) = (List.range ws.length).map fun i => PyData.tuple [fr (mf ms i), .int (wi ws i)] := by
  refine List.ext_getElem? fun i => ?_
  by_cases hi : i < ws.length
  · have e1 : (zipD (ms.map fr) (ws.map PyData.int)).length = ws.length := by rw [zipD_len, List.length_map, List.length_map, hD.len]; simp
    have h2 : i < (zipD (ms.map fr) (ws.map PyData.int)).length := by rw [e1]; exact hi
    have e2 : (zipD (ms.map fr) (ws.map PyData.int))[i]? = some (zipD (ms.map fr) (ws.map PyData.int))[i] := List.getElem?_eq_getElem h2
    obtain ⟨x, y, e3, e4, e5⟩ := zipD_get e2
    rw [List.getElem?_map, (getD_mem (xs := ms) (d := 0) (by rw [hD.len]; exact hi)).2] at e3
    rw [List.getElem?_map, (getD_mem (xs := ws) (d := 0) hi).2] at e4
    cases e3
    cases e4
    rw [e2, e5, List.getElem?_map, List.getElem?_range hi]
    rfl
  · rw [List.getElem?_eq_none (by rw [zipD_len, List.length_map, List.length_map]; omega), List.getElem?_eq_none (by simp; omega)]
def r_payments_at (Ed : XD → Prop) : TSD := tsRet (tdB dTupleOf (arCons (toD (frz (tdLc (tiZip (tvVar 0) (tvVar 1)) (tgTup 2 (tgCons (tgName 3) (tgCons (tgName 4) (tgNil)))) (tbYes) (frz (tdCall 2 sp_lesser (fun _ => False) (arCons (toD (tvVar 3)) (arCons (toD (frz (tdCall 2 sp_times (fun _ => False) (arCons (toD (tvVar 2)) (arCons (toD (tvTup (arCons (toD (tvVar 4)) (arCons (toD (tvC (.int 1))) (arNil))))) (arNil)))))) (arNil))))) [3, 4]))) (arNil)))
theorem pu_payments_at {ss : List S} {Qd : S → Prop} {Ed : XD → Prop} (h : sp_payments_at ss Qd Ed) : r_payments_at Ed { nx := fun _ => Qd (.d .none), rt := Qd } (startD ["moneys", "row", "rate", "money", "worth"] ss) := by
  obtain ⟨ms, ws, c, q, rfl, hD, oq, hQ⟩ := h
  have lw := hD.le
  have lm : ms.length = ws.length := hD.len
  have sz : 16 < sizeLine := by decide
  unfold r_payments_at tdLc tiZip dTupleOf
  walk_at "dl"
  refine ⟨ms.map fr, rfl, ws.map PyData.int, rfl, by rw [List.length_map]; omega, by rw [zipD_len, List.length_map, List.length_map]; omega, ?_⟩
  refine compWP_of (fun x => match x with
    | .tuple [.tuple [.int a, .int b], .int z] => some (if dv a b < q * ((z : Int) : Rat) then .tuple [.int a, .int b] else fr (q * ((z : Int) : Rat)))
    | _ => none) _ _ (fun x hx K hK => ?_) ?_
  · rw [zip_ws hD] at hx
    obtain ⟨i, hi, rfl⟩ := List.mem_map.mp hx
    have hi : i < ws.length := List.mem_range.mp hi
    simp only [wipeD]
    unfold tbYes sp_times sp_lesser sp_pair
    walk_at "dl"
    simp only [if_true]
    have oz := oq.mul (ok_int (hD.w hi).2 (by decide))
    simp only [fr] at hK
    rw [dv_nd] at hK
    refine ⟨fr_pr oq (by decide), pr_one (hD.w hi).2 (by decide), fr_pr (hD.m hi).2 (by decide), ?_⟩
    rw [intR]
    refine ⟨fr_pr oz (by decide), ?_⟩
    exact hK
  · rw [zip_ws hD, List.nil_append, List.filterMap_map]
    refine fun p => ?_
    have e : List.filterMap ((fun x => match x with
      | PyData.tuple [.tuple [.int a, .int b], .int z] => some (if dv a b < q * ((z : Int) : Rat) then PyData.tuple [.int a, .int b] else fr (q * ((z : Int) : Rat)))
      | _ => none) ∘ fun i => PyData.tuple [fr (mf ms i), .int (wi ws i)]) (List.range ws.length) = (List.range ws.length).map fun i => fr (give (mf ms) (wf ws) q i) := by
      show List.filterMap (fun i => some (if dv (mf ms i).num (mf ms i).den < q * wf ws i then fr (mf ms i) else fr (q * wf ws i))) _ = _
      rw [List.filterMap_eq_map']
      refine List.map_congr_left fun i _ => ?_
      rw [dv_nd]
      unfold give
      split <;> rfl
    refine ⟨_, rfl, ?_⟩
    unfold payD at hQ
    rw [← e] at hQ
    exact hQ
def rb__law_paid_0 (Ed : XD → Prop) : TSD := tsSeq (tsAsg (toD (frz (tdCall 2 sp__law_mul Ed (arCons (toD (tvVar 2)) (arCons (toD (tvTup (arCons (toD (tv2 dIx (tvVar 1) (tvVar 4))) (arCons (toD (tvC (.int 1))) (arNil))))) (arNil)))))) (tgName 5)) (tsAsg (toD (tv2 dAdd (tvVar 3) (tvTup (arCons (toD (tvIf (tbOf (frz (tdCall 2 sp__law_below Ed (arCons (toD (tvVar 5)) (arCons (toD (tv2 dIx (tvVar 0) (tvVar 4))) (arNil)))))) (tvVar 5) (tv2 dIx (tvVar 0) (tvVar 4)))) (arNil))))) (tgName 3))
def r__law_paid (Ed : XD → Prop) : TSD := tsSeq (tsAsg (toD (tvTup (arNil))) (tgName 3)) (tsSeq (tsFor (tiRng1 (frz (tdB dLen (arCons (toD (tvVar 1)) (arNil))))) (tgName 4) (rb__law_paid_0 Ed)) (tsRet (toD (tvVar 3))))
theorem fr_give (m w : Nat → Rat) (q : Rat) (i : Nat) : (if q * w i < m i then fr (q * w i) else fr (m i)) = fr (give m w q i) := by
  unfold give
  by_cases h : q * w i < m i
  · rw [if_pos h, if_neg (by grind)]
  · rw [if_neg h]
    by_cases h2 : m i < q * w i
    · rw [if_pos h2]
    · rw [if_neg h2]
      have : m i = q * w i := by grind
      rw [this]
theorem pu__law_paid {ss : List S} {Qd : S → Prop} {Ed : XD → Prop} (h : sp__law_paid ss Qd Ed) : r__law_paid Ed { nx := fun _ => Qd (.d .none), rt := Qd } (startD ["moneys", "row", "rate", "found", "at", "part"] ss) := by
  obtain ⟨ms, ws, c, q, rfl, hD, oq, hQ⟩ := h
  have lw := hD.le
  have sz : 16 < sizeLine := by decide
  unfold r__law_paid tsFor tiRng1 dLen
  walk_at "dl"
  refine ⟨Nat.zero_le _, _, rfl, by rw [List.length_map]; omega, by rw [List.length_map]; omega, ?_⟩
  rw [List.length_map, rng0]
  refine forWP_of (fun l δ => ∃ k a4 a5, k ≤ ws.length ∧ l = ((List.range ws.length).drop k).map (fun i => PyData.int (i : Nat)) ∧ δ = [some (.d (.tuple (ms.map fr))), some (.d (.list (ws.map PyData.int))), some (.d (fr q)), some (.d (.tuple ((List.range k).map fun i => fr (give (mf ms) (wf ws) q i)))), a4, a5]) _ _
    ⟨0, none, none, Nat.zero_le _, by rw [List.drop_zero], rfl⟩ ?_ ?_
  · rintro δ ⟨k, a4, a5, hk, e, rfl⟩
    have ek : k = ws.length := by
      have := congrArg List.length e
      simp at this
      omega
    subst ek
    walk_at "dl"
    exact hQ
  · rintro x r δ ⟨k, a4, a5, hk, e, rfl⟩ T hT
    have hk : k < ws.length := by
      have := congrArg List.length e
      simp at this
      omega
    rw [List.drop_eq_getElem_cons (by rw [List.length_range]; exact hk), List.map_cons, List.getElem_range] at e
    cases e
    have oz := oq.mul (ok_int (hD.w hk).2 (by decide))
    have hm := at_m (ms := ms) (i := k) (by rw [hD.len]; exact hk)
    have om := (hD.m hk).2
    unfold rb__law_paid_0 sp__law_mul sp_times sp__law_below sp_is_less sp_pair
    walk_at "dl"
    refine ⟨_, at_w hk, ?_⟩
    walk_at "dl"
    refine ⟨fr_pr oq (by decide), pr_one (hD.w hk).2 (by decide), _, hm, ?_⟩
    rw [intR]
    walk_at "dl"
    refine ⟨fr_pr oz (by decide), fr_pr om (by decide), ?_⟩
    have fin : T [some (.d (.tuple (ms.map fr))), some (.d (.list (ws.map PyData.int))), some (.d (fr q)), some (.d (.tuple ((List.range k).map (fun i => fr (give (mf ms) (wf ws) q i)) ++ [if q * wf ws k < mf ms k then fr (q * wf ws k) else fr (mf ms k)]))), some (.d (.int (k : Nat))), some (.d (fr (q * wf ws k)))] := by
      refine hT _ ⟨k + 1, some (.d (.int (k : Nat))), some (.d (fr (q * wf ws k))), hk, rfl, ?_⟩
      rw [List.range_succ, List.map_append, fr_give]
      rfl
    by_cases hl : q * ((wi ws k : Int) : Rat) < mf ms k
    · rw [if_pos hl]
      rw [if_pos (show q * wf ws k < mf ms k from hl)] at fin
      exact ⟨by rw [List.length_map, List.length_range]; omega, fin⟩
    · rw [if_neg hl]
      rw [if_neg (show ¬ q * wf ws k < mf ms k from hl)] at fin
      exact ⟨_, hm, by rw [List.length_map, List.length_range]; omega, fin⟩
end DL

-- part R9
/-! k09: the law's own rate -/
namespace DL
open PySem PySem.Spec PyProof.Rows L2 K09
theorem eqv_map_nil {α : Type} {L : List α} {f : α → D} : PyData.eqv (.list (L.map f)) (.list []) = decide (L = []) := by
  rw [eqv_nil]
  cases L <;> simp
abbrev natD (L : List Nat) : D := .list (L.map fun i => PyData.int (i : Nat))
local macro_rules | `(tactic| walk_at "dl") => `(tactic| simp only [tsSeq, tsAsg, tsIf, tsNext, tsRet, tsRetN, tsRetOwn, tsDrop, tsNever, tsPar, tsAug, toD, frz_eq, frzK_d, frzK_own, frzAt, tbBor, tvBor, tdB, tdCall, tvVar, tdVar, tvC, tv2, tvTup, tdLst, tvIf, tvAnd, tvOr, tvNot, tbOf_eq, boolK_b, tdLc, tiSeq, itemsD, wipeD, tiMax, tiRng1, tiZip, tiZip3, seqD_l, seqD_t, dTupleOf,  dNotIn, dIn, tsFrzAft, eqv_map_nil, natD, tbAnd, tbOr, tbNot, tgName, tgNil, tgCons, tgTup, arCons, arNil, dI_i, dAdd_i, dAdd_t, dAdd_s, dSub, dMul, dDiv, dDivA, dMod, dPow, dNeg_eq, negK_i, dCmp_i, dLt, dLe, dGt, dGe, dEq, dNe, dIsN, dNotN, dIx_l, dIx_t, dIx_s, dGcd, dAbs, dMax2, dMin2, dInt1, allD, noOwn, startD, fr, tvSt, tvTurn, tvPop, tsStPut, tiCells, tvIsi, tvIsi2, dRepr, dEqS, tvDget,
  List.map_cons, List.map_nil, List.length_cons, List.length_nil, Nat.reduceAdd, Nat.reduceSub, Nat.zero_add, List.replicate, List.cons_append, List.nil_append, List.getElem?_cons_zero, List.getElem?_cons_succ, List.set_cons_zero, List.set_cons_succ, Option.some.injEq, S.d.injEq, S.v.injEq, S.dic.injEq, PyData.int.injEq, PyData.bool.injEq, PyData.tuple.injEq, PyData.list.injEq, List.cons.injEq, exists_eq_left', exists_eq_left, exists_eq_right, true_and, and_true, Option.map_some, atI_0, atI_1, sL1, sL2, sL3, sL4, Option.map, eqv_int, shaped_int, dv_self, and_assoc, exists_and_left, decide_eq_true_eq])
/-! ### the law's own rate -/
def sp__law_rate : SpD := fun ss Q _ => ∃ ms ws c r, ss = [.d (.tuple (ms.map fr)), .d (.list (ws.map PyData.int)), .d (.int c)] ∧ Dat ms ws c ∧ IsRate (mf ms) (wf ws) (AA ws) c r ∧ (∀ q, r = some q → Ok 600 q) ∧ Q (.d (optD r))
def rb__law_rate_0 (Ed : XD → Prop) : TSD := tsSeq (tsAsg (toD (frz (tdLc (tiSeq (tvVar 3)) (tgName 11) (tbOf (frz (tdCall 2 sp__law_below (fun _ => False) (arCons (toD (tvDget 4 (tvVar 11))) (arCons (toD (tvDget 4 (tvVar 6))) (arNil)))))) (tvVar 11) [11]))) (tgName 7)) (tsSeq (tsFrzAft 8 (tsAsg (tdLc (tiSeq (tvVar 3)) (tgName 11) (tbOf (tv2 dNotIn (tvVar 11) (tvVar 7))) (tvVar 11) [11]) (tgName 8))) (tsSeq (tsAsg (toD (frz (tdCall 2 sp__law_sub Ed (arCons (toD (tvTup (arCons (toD (tvVar 2)) (arCons (toD (tvC (.int 1))) (arNil))))) (arCons (toD (frz (tdCall 1 sp__law_sum Ed (arCons (toD (frz (tdLc (tiSeq (tvVar 7)) (tgName 11) (tbYes) (tv2 dIx (tvVar 0) (tvVar 11)) [11]))) (arNil))))) (arNil)))))) (tgName 9)) (tsSeq (tsAsg (toD (frz (tdCall 2 sp__law_frac Ed (arCons (toD (tv2 dIx (tvVar 9) (tvC (.int 0)))) (arCons (toD (tv2 dMul (tv2 dIx (tvVar 9) (tvC (.int 1))) (frz (tdB dSum (arCons (toD (frz (tdLc (tiSeq (tvVar 8)) (tgName 11) (tbYes) (tv2 dIx (tvVar 1) (tvVar 11)) [11]))) (arNil)))))) (arNil)))))) (tgName 10)) (tsIf (tbAnd (tbOf (tv2 dGt (tv2 dIx (tvVar 10) (tvC (.int 0))) (tvC (.int 0)))) (tbOf (tv2 dEq (frz (tdLc (tiSeq (tvVar 8)) (tgName 11) (tbOf (frz (tdCall 2 sp__law_below (fun _ => False) (arCons (toD (tv2 dIx (tvVar 0) (tvVar 11))) (arCons (toD (frz (tdCall 2 sp__law_mul (fun _ => False) (arCons (toD (tvVar 10)) (arCons (toD (tvTup (arCons (toD (tv2 dIx (tvVar 1) (tvVar 11))) (arCons (toD (tvC (.int 1))) (arNil))))) (arNil)))))) (arNil)))))) (tvVar 11) [11])) (frz (tdLst (arNil)))))) (tsIf (tbOf (tv2 dEq (frz (tdLc (tiSeq (tvVar 7)) (tgName 11) (tbOf (frz (tdCall 2 sp__law_below (fun _ => False) (arCons (toD (frz (tdCall 2 sp__law_mul (fun _ => False) (arCons (toD (tvVar 10)) (arCons (toD (tvTup (arCons (toD (tv2 dIx (tvVar 1) (tvVar 11))) (arCons (toD (tvC (.int 1))) (arNil))))) (arNil)))))) (arCons (toD (tv2 dIx (tvVar 0) (tvVar 11))) (arNil)))))) (tvVar 11) [11])) (frz (tdLst (arNil))))) (tsAsg (toD (tvIf (tbOr (tbOf (tv2 dIsN (tvVar 5) (tvC .none))) (tbOf (frz (tdCall 2 sp__law_below Ed (arCons (toD (tvVar 10)) (arCons (toD (tvVar 5)) (arNil))))))) (tvVar 10) (tvVar 5))) (tgName 5)) (tsNext)) (tsNext)))))
def r__law_rate (Ed : XD → Prop) : TSD := tsSeq (tsFrzAft 3 (tsAsg (tdLc (tiRng1 (frz (tdB dLen (arCons (toD (tvVar 1)) (arNil))))) (tgName 11) (tbOf (tv2 dGt (tv2 dIx (tvVar 1) (tvVar 11)) (tvC (.int 0)))) (tvVar 11) [11]) (tgName 3))) (tsSeq (tsIf (tbOr (tbOf (tv2 dEq (tvVar 3) (frz (tdLst (arNil))))) (tbOf (frz (tdCall 2 sp__law_below Ed (arCons (toD (frz (tdCall 1 sp__law_sum Ed (arCons (toD (frz (tdLc (tiSeq (tvVar 3)) (tgName 11) (tbYes) (tv2 dIx (tvVar 0) (tvVar 11)) [11]))) (arNil))))) (arCons (toD (tvTup (arCons (toD (tvVar 2)) (arCons (toD (tvC (.int 1))) (arNil))))) (arNil))))))) (tsRet (toD (tvC .none))) (tsNext)) (tsSeq (tsAsg (tdB dDictP (arCons (toD (frz (tdLc (tiSeq (tvVar 3)) (tgName 11) (tbYes) (tvTup (arCons (toD (tvVar 11)) (arCons (toD (tvTup (arCons (toD (tv2 dIx (tv2 dIx (tvVar 0) (tvVar 11)) (tvC (.int 0)))) (arCons (toD (tv2 dMul (tv2 dIx (tv2 dIx (tvVar 0) (tvVar 11)) (tvC (.int 1))) (tv2 dIx (tvVar 1) (tvVar 11)))) (arNil))))) (arNil)))) [11]))) (arNil))) (tgName 4)) (tsSeq (tsAsg (toD (tvC .none)) (tgName 5)) (tsSeq (tsFor (tiSeq (tvVar 3)) (tgName 6) (rb__law_rate_0 Ed)) (tsRet (toD (tvVar 5)))))))
theorem shN_nat (L : List Nat) : shN 2 (natD L) := shN_list fun x hx => by
  obtain ⟨i, _, rfl⟩ := List.mem_map.mp hx
  exact shN_int
def limK (ms : List Rat) (ws : List Int) : List (Key × D) := (AA ws).map fun i => (.inl (i : Nat), .tuple [.int (mf ms i).num, .int ((mf ms i).den * wi ws i)])
theorem look_lim {ms : List Rat} {ws : List Int} {i : Nat} (h : i ∈ AA ws) : look (limK ms ws) (.inl (i : Nat)) = some (.tuple [.int (mf ms i).num, .int ((mf ms i).den * wi ws i)]) := by
  have key : ∀ A : List Nat, i ∈ A → look (A.map fun i => ((.inl (i : Nat) : Key), PyData.tuple [.int (mf ms i).num, .int ((mf ms i).den * wi ws i)])) (.inl (i : Nat)) = some (.tuple [.int (mf ms i).num, .int ((mf ms i).den * wi ws i)]) := by
    intro A
    induction A with
    | nil => intro h; cases h
    | cons a A ih =>
      intro h
      rw [List.map_cons, look_cons]
      by_cases e : a = i
      · subst e; rw [if_pos rfl]
      · rw [if_neg (fun z => e (by cases z; rfl))]
        rcases List.mem_cons.mp h with z | z
        · exact absurd z.symm e
        · exact ih z
  exact key _ h
theorem dv_lim {ms : List Rat} {ws : List Int} (i : Nat) : dv (mf ms i).num ((mf ms i).den * wi ws i) = mf ms i / wf ws i := by
  rw [show dv (mf ms i).num ((mf ms i).den * wi ws i) = ((mf ms i).num : Rat) / (((mf ms i).den * wi ws i : Int) : Rat) from Rat.divInt_eq_div _ _, Rat.intCast_mul]
  conv => rhs; rw [← dv_self (mf ms i), show dv (mf ms i).num (mf ms i).den = ((mf ms i).num : Rat) / (((mf ms i).den : Int) : Rat) from Rat.divInt_eq_div _ _]
  have h1 : (((mf ms i).den : Int) : Rat) ≠ 0 := by exact_mod_cast den_ne _
  unfold wf
  grind
theorem pr_lim {ms : List Rat} {ws : List Int} {c : Int} (hD : Dat ms ws c) {i : Nat} (h : i ∈ AA ws) : Pr (mf ms i).num ((mf ms i).den * wi ws i) := by
  obtain ⟨h1, h2⟩ := AA_mem.mp h
  have o := (hD.m h1).2
  exact ⟨Int.mul_pos (den_pos' _) h2, o.bd.1.mono (by decide), (o.bd.2.mul (hD.w h1).2).mono (by decide)⟩
theorem range_filter (ws : List Int) : rng 0 (((ws.map PyData.int).length : Nat) : Int).toNat = (List.range ws.length).map fun i => PyData.int (i : Nat) := by rw [rng0, List.length_map]
theorem inD_nat {i : Nat} {L : List Nat} : inD (.int (i : Nat)) (natD L) = some (decide (i ∈ L)) := by
  have hf : (flatD (.int (i : Nat)) && (L.map fun i => PyData.int (i : Nat)).all flatD) = true := by
    rw [Bool.and_eq_true]
    refine ⟨rfl, List.all_eq_true.mpr fun x hx => ?_⟩
    obtain ⟨j, _, rfl⟩ := List.mem_map.mp hx
    rfl
  unfold natD inD
  simp only [hf, Bool.true_or, if_true, Option.some.injEq]
  induction L with
  | nil => simp
  | cons a L ih =>
    have hf2 : (flatD (.int (i : Nat)) && (L.map fun i => PyData.int (i : Nat)).all flatD) = true := by
      rw [Bool.and_eq_true]
      refine ⟨rfl, List.all_eq_true.mpr fun x hx => ?_⟩
      obtain ⟨j, _, rfl⟩ := List.mem_map.mp hx
      rfl
    rw [List.map_cons, List.any_cons, ih hf2, eqv_int]
    by_cases h : a = i
    · subst h; simp
    · have : ¬ ((a : Nat) : Int) = (i : Nat) := by omega
      rw [decide_eq_false this, Bool.false_or]
      have : i ≠ a := fun z => h z.symm
      by_cases h2 : i ∈ L
      · simp [h2]
      · simp [h2, this]
theorem sum_bd {ws : List Int} {L : List Nat} (hl : L.length ≤ 16) (h : ∀ i ∈ L, 0 ≤ wi ws i ∧ Bd 20 (wi ws i)) : Bd 25 (L.map (wi ws)).sum := by
  have key : ∀ L : List Nat, (∀ i ∈ L, 0 ≤ wi ws i ∧ Bd 20 (wi ws i)) → 0 ≤ (L.map (wi ws)).sum ∧ (L.map (wi ws)).sum ≤ L.length * 1048576 := by
    intro L
    induction L with
    | nil => intro _; exact ⟨Int.le_refl _, by simp⟩
    | cons z zs ih =>
      intro h
      have h1 := h z (List.mem_cons_self ..)
      have h2 := ih fun y hy => h y (List.mem_cons_of_mem _ hy)
      unfold Bd at h1
      have e : (2 : Nat) ^ 20 = 1048576 := by decide
      rw [e] at h1
      rw [List.map_cons, List.sum_cons, List.length_cons]
      omega
  have := key L h
  unfold Bd
  have e : (2 : Nat) ^ 25 = 33554432 := by decide
  rw [e]
  omega
theorem dv_over (o : Rat) (t : Int) : dv o.num ((o.den : Nat) * t) = o / (t : Rat) := by
  rw [show dv o.num ((o.den : Nat) * t) = (o.num : Rat) / (((o.den : Nat) * t : Int) : Rat) from Rat.divInt_eq_div _ _, Rat.intCast_mul]
  conv => rhs; rw [← dv_self o, show dv o.num o.den = (o.num : Rat) / ((o.den : Int) : Rat) from Rat.divInt_eq_div _ _]
  have h1 : (((o.den : Nat) : Int) : Rat) ≠ 0 := by exact_mod_cast den_ne o
  grind
theorem num_pos' {q : Rat} : 0 < q.num ↔ 0 < q := by
  rw [Rat.lt_iff]
  simp
/-- one turn of the law's own walk -/
theorem rate_body {ms : List Rat} {ws : List Int} {c : Int} (hD : Dat ms ws c) {q0 : Rat} (hr : IsRate (mf ms) (wf ws) (AA ws) c (some q0)) (ho : Ok 600 q0) {j : Nat} (hj : j ∈ AA ws) {best : Option Rat} (hb : best = none ∨ best = some q0) {Ed : XD → Prop} {E : EndsD} {a7 a8 a9 a10 a11 : Option S}
    (h : ∀ best', (best' = none ∨ best' = some q0) → (best = some q0 → best' = some q0) → (Valid (mf ms) (wf ws) (AA ws) c j → best' = some q0) → ∀ a6 a7 a8 a9 a10 a11, E.nx [some (.d (.tuple (ms.map fr))), some (.d (.list (ws.map PyData.int))), some (.d (.int c)), some (.d (natD (AA ws))), some (.dic (limK ms ws)), some (.d (optD best')), a6, a7, a8, a9, a10, a11]) :
    rb__law_rate_0 Ed E [some (.d (.tuple (ms.map fr))), some (.d (.list (ws.map PyData.int))), some (.d (.int c)), some (.d (natD (AA ws))), some (.dic (limK ms ws)), some (.d (optD best)), some (.d (.int (j : Nat))), a7, a8, a9, a10, a11] := by
  have lA : (AA ws).length ≤ 16 := Nat.le_trans AA_len hD.le
  have sz : 16 < sizeLine := by decide
  have lf : ∀ p : Nat → Bool, ((AA ws).filter p).length ≤ 16 := fun p => Nat.le_trans (List.length_filter_le p _) lA
  have ml : ∀ {L : List Nat}, L.length ≤ 16 → (L.map fun i => PyData.int (i : Nat)).length ≤ 2 ^ 62 ∧ (L.map fun i => PyData.int (i : Nat)).length < sizeLine := fun {L} h => by
    rw [List.length_map]
    omega
  have inA : ∀ {p : Nat → Bool} {i : Nat}, i ∈ (AA ws).filter p → i ∈ AA ws := fun {p i} h => (List.mem_filter.mp h).1
  unfold rb__law_rate_0
  walk_at "dl"
  refine ⟨(ml lA).1, (ml lA).2, ?_⟩
  refine comp_ints (fun i => decide (mf ms i / wf ws i < mf ms j / wf ws j)) (fun i hi K hK => ?_) ?_
  · unfold sp__law_below sp_is_less sp_pair
    walk_at "dl"
    refine ⟨.inl (i : Nat), rfl, _, look_lim hi, .inl (j : Nat), rfl, _, look_lim hj, ?_⟩
    walk_at "dl"
    refine ⟨pr_lim hD hi, pr_lim hD hj, ?_⟩
    rw [dv_lim, dv_lim]
    by_cases hl : mf ms i / wf ws i < mf ms j / wf ws j
    · simp only [hl, decide_true, if_true] at hK ⊢
      exact hK
    · simp only [hl, decide_false, if_false, Bool.false_eq_true] at hK ⊢
      exact hK
  refine fun p1 => ⟨(ml lA).1, (ml lA).2, ?_⟩
  change compWP _ _ _ _ _ _ _
  generalize eP : (AA ws).filter (fun i => decide (mf ms i / wf ws i < mf ms j / wf ws j)) = poor
  have lP : poor.length ≤ 16 := by rw [← eP]; exact lf _
  have memP : ∀ i, i ∈ poor ↔ i ∈ AA ws ∧ mf ms i / wf ws i < mf ms j / wf ws j := fun i => by rw [← eP, List.mem_filter, decide_eq_true_eq]
  have eP' : poor = poorOf (mf ms) (wf ws) (AA ws) j := eP.symm
  refine comp_ints (fun i => !decide (mf ms i / wf ws i < mf ms j / wf ws j)) (fun i hi K hK => ?_) ?_
  · walk_at "dl"
    refine ⟨_, inD_nat, ?_⟩
    by_cases hl : mf ms i / wf ws i < mf ms j / wf ws j
    · have hm : i ∈ poor := (memP i).mpr ⟨hi, hl⟩
      simp only [hl, hm, decide_true, Bool.not_true, Bool.false_eq_true, if_false] at hK ⊢
      exact hK
    · have hm : i ∉ poor := fun z => hl ((memP i).mp z).2
      simp only [hl, hm, decide_false, Bool.not_false, if_true] at hK ⊢
      exact hK
  generalize eR : (AA ws).filter (fun i => !decide (mf ms i / wf ws i < mf ms j / wf ws j)) = rich
  have lR : rich.length ≤ 16 := by rw [← eR]; exact lf _
  have memR : ∀ i ∈ rich, i ∈ AA ws := fun i h => by rw [← eR] at h; exact inA h
  have eR' : rich = richOf (mf ms) (wf ws) (AA ws) j := eR.symm
  refine fun p2 => ⟨(ml lP).1, (ml lP).2, ?_⟩
  refine comp_map (fun i => fr (mf ms i)) (fun i hi K hK => ?_) ?_
  · walk_at "dl"
    exact ⟨_, at_m (by rw [hD.len]; exact (AA_mem.mp ((memP i).mp hi).1).1), hK⟩
  have oks : ∀ z ∈ poor.map (mf ms), Ok 20 z := fun z hz => by
    obtain ⟨i, hi, rfl⟩ := List.mem_map.mp hz
    exact (hD.m (AA_mem.mp ((memP i).mp hi).1).1).2
  have os := ok_sum oks
  rw [List.length_map] at os
  have os' : Ok 400 (poor.map (mf ms)).sum := os.mono (by omega)
  refine fun p3 => ⟨_, poor.map (mf ms), rfl, by rw [List.map_map]; rfl, ⟨20, oks, by rw [List.length_map]; omega⟩, ?_⟩
  unfold sp__law_sub sp_minus sp_pair
  walk_at "dl"
  refine ⟨pr_one hD.c0.2 (by decide), fr_pr os' (by decide), ?_⟩
  rw [intR]
  have oo : Ok 531 ((c : Rat) - (poor.map (mf ms)).sum) := ((ok_int hD.c0.2 (by decide)).sub os')
  generalize eo : (c : Rat) - (poor.map (mf ms)).sum = owed at oo ⊢
  refine ⟨(ml lR).1, (ml lR).2, ?_⟩
  refine comp_map (fun i => PyData.int (wi ws i)) (fun i hi K hK => ?_) ?_
  · walk_at "dl"
    exact ⟨_, at_w (AA_mem.mp (memR i hi)).1, hK⟩
  refine fun p4 => ⟨rich.map (wi ws), by rw [List.map_map]; rfl, ?_⟩
  have hrp := rich_pos (m := mf ms) AA_pos hj
  rw [← eR'] at hrp
  have hS : (((rich.map (wi ws)).sum : Int) : Rat) = sumOn (wf ws) rich := cast_sum (wi ws) rich
  have Sp : 0 < (rich.map (wi ws)).sum := by
    have : (0 : Rat) < (((rich.map (wi ws)).sum : Int) : Rat) := by rw [hS]; exact hrp.2
    exact_mod_cast this
  have Sb : Bd 25 (rich.map (wi ws)).sum := sum_bd lR fun i hi => hD.w (AA_mem.mp (memR i hi)).1
  generalize eS : (rich.map (wi ws)).sum = S0 at hS Sp Sb ⊢
  unfold sp__law_frac
  walk_at "dl"
  have bm := oo.bd.2.mul Sb
  refine ⟨(oo.bd.2.cmul Sb (by decide)).ok, Int.mul_ne_zero (den_ne owed) (by omega), bm.mono (by decide), ?_⟩
  have er : dv owed.num ((owed.den : Nat) * S0) = rateOf (mf ms) (wf ws) (AA ws) c j := by
    rw [dv_over owed S0, hS, ← eo, eP', eR']
    rfl
  rw [er]
  have orr : Ok 556 (rateOf (mf ms) (wf ws) (AA ws) c j) := by
    rw [← er, dv_over owed S0]
    exact oo.div Sp Sb
  generalize eq1 : rateOf (mf ms) (wf ws) (AA ws) c j = rate at orr ⊢
  have keep : ¬ Valid (mf ms) (wf ws) (AA ws) c j → ∀ a6 a7 a8 a9 a10 a11, E.nx [some (.d (.tuple (ms.map fr))), some (.d (.list (ws.map PyData.int))), some (.d (.int c)), some (.d (natD (AA ws))), some (.dic (limK ms ws)), some (.d (optD best)), a6, a7, a8, a9, a10, a11] := fun nv => h best hb id fun v => absurd v nv
  by_cases hn : 0 < rate.num
  · rw [if_pos hn]
    refine ⟨(ml lR).1, (ml lR).2, ?_⟩
    refine comp_ints (fun i => decide (mf ms i < rate * wf ws i)) (fun i hi K hK => ?_) ?_
    · have iA := memR i hi
      have il := (AA_mem.mp iA).1
      unfold sp__law_below sp_is_less sp__law_mul sp_times sp_pair
      try walk_at "dl"
      refine ⟨_, at_m (by rw [hD.len]; exact il), _, at_w il, ?_⟩
      try walk_at "dl"
      refine ⟨fr_pr orr (by decide), pr_one (hD.w il).2 (by decide), ?_⟩
      rw [intR]
      have oz := orr.mul (ok_int (hD.w il).2 (by decide))
      try walk_at "dl"
      refine ⟨fr_pr (hD.m il).2 (by decide), fr_pr oz (by decide), ?_⟩
      by_cases hl : mf ms i < rate * wf ws i
      · rw [if_pos (show mf ms i < rate * ((wi ws i : Int) : Rat) from hl)]
        simp only [hl, decide_true, if_true] at hK
        exact hK
      · rw [if_neg (show ¬ mf ms i < rate * ((wi ws i : Int) : Rat) from hl)]
        simp only [hl, decide_false, if_false, Bool.false_eq_true] at hK
        exact hK
    refine fun p5 => ⟨Nat.zero_le _, fun p6 => ⟨(shN_nat _).shaped (by decide), rfl, ?_⟩⟩
    rw [eqv_map_nil]
    by_cases hv1 : rich.filter (fun i => decide (mf ms i < rate * wf ws i)) = []
    · rw [if_pos (by simpa using hv1)]
      refine ⟨(ml lP).1, (ml lP).2, ?_⟩
      refine comp_ints (fun i => decide (rate * wf ws i < mf ms i)) (fun i hi K hK => ?_) ?_
      · have iA := ((memP i).mp hi).1
        have il := (AA_mem.mp iA).1
        unfold sp__law_below sp_is_less sp__law_mul sp_times sp_pair
        try walk_at "dl"
        refine ⟨_, at_w il, ?_⟩
        try walk_at "dl"
        refine ⟨fr_pr orr (by decide), pr_one (hD.w il).2 (by decide), _, at_m (by rw [hD.len]; exact il), ?_⟩
        rw [intR]
        have oz := orr.mul (ok_int (hD.w il).2 (by decide))
        try walk_at "dl"
        refine ⟨fr_pr oz (by decide), fr_pr (hD.m il).2 (by decide), ?_⟩
        by_cases hl : rate * wf ws i < mf ms i
        · rw [if_pos (show rate * ((wi ws i : Int) : Rat) < mf ms i from hl)]
          simp only [hl, decide_true, if_true] at hK
          exact hK
        · rw [if_neg (show ¬ rate * ((wi ws i : Int) : Rat) < mf ms i from hl)]
          simp only [hl, decide_false, if_false, Bool.false_eq_true] at hK
          exact hK
      refine fun p7 => ⟨Nat.zero_le _, fun p8 => ⟨(shN_nat _).shaped (by decide), rfl, ?_⟩⟩
      rw [eqv_map_nil]
      by_cases hv2 : poor.filter (fun i => decide (rate * wf ws i < mf ms i)) = []
      · rw [if_pos (by simpa using hv2)]
        have v : Valid (mf ms) (wf ws) (AA ws) c j := by
          refine ⟨by rw [eq1]; exact num_pos'.mp hn, fun i hi => ?_, fun i hi => ?_⟩
          · rw [eq1]
            rw [← eR'] at hi
            have := List.filter_eq_nil_iff.mp hv1 i hi
            have : ¬ mf ms i < rate * wf ws i := by simpa using this
            grind
          · rw [eq1]
            rw [← eP'] at hi
            have := List.filter_eq_nil_iff.mp hv2 i hi
            have : ¬ rate * wf ws i < mf ms i := by simpa using this
            grind
        have er2 : rate = q0 := by
          have := rate_unique AA_pos (valid_is AA_pos AA_nodup hj v) hr
          rw [eq1] at this
          exact Option.some.inj this
        subst er2
        rcases hb with e | e
        · subst e
          exact h (some rate) (.inr rfl) (fun z => nomatch z) (fun _ => rfl) _ _ _ _ _ _
        · subst e
          rw [if_neg (by unfold optD fr isNone; simp)]
          unfold sp__law_below sp_is_less sp_pair optD
          try walk_at "dl"
          refine ⟨fr_pr orr (by decide), fr_pr orr (by decide), ?_⟩
          rw [if_neg (by grind)]
          exact h (some rate) (.inr rfl) id (fun _ => rfl) _ _ _ _ _ _
      · rw [if_neg (by simpa using hv2)]
        refine keep (fun v => hv2 (List.filter_eq_nil_iff.mpr fun i hi => ?_)) _ _ _ _ _ _
        have := v.2.2 i (by rw [← eP']; exact hi)
        rw [eq1] at this
        simp only [decide_eq_true_eq]
        grind
    · rw [if_neg (by simpa using hv1)]
      refine keep (fun v => hv1 (List.filter_eq_nil_iff.mpr fun i hi => ?_)) _ _ _ _ _ _
      have := v.2.1 i (by rw [← eR']; exact hi)
      rw [eq1] at this
      simp only [decide_eq_true_eq]
      grind
  · rw [if_neg hn]
    refine keep (fun v => hn ?_) _ _ _ _ _ _
    have := v.1
    rw [eq1] at this
    exact num_pos'.mpr this
theorem pu__law_rate {ss : List S} {Qd : S → Prop} {Ed : XD → Prop} (h : sp__law_rate ss Qd Ed) : r__law_rate Ed { nx := fun _ => Qd (.d .none), rt := Qd } (startD ["moneys", "row", "cost", "some", "limits", "best", "first", "poor", "rich", "owed", "rate", "at"] ss) := by
  obtain ⟨ms, ws, c, r, rfl, hD, hr, ho, q⟩ := h
  have lw := hD.le
  have lA : (AA ws).length ≤ 16 := Nat.le_trans AA_len hD.le
  have sz : 16 < sizeLine := by decide
  have fil : ∀ {α : Type} {L : List Nat} {f : Nat → α}, L.length ≤ 16 → (L.map f).length ≤ 2 ^ 62 ∧ (L.map f).length < sizeLine := fun {α L f} h => by
    rw [List.length_map]
    omega
  unfold r__law_rate tiRng1 dLen tsFor
  walk_at "dl"
  refine ⟨_, rfl, by rw [List.length_map]; omega, by rw [List.length_map]; omega, by rw [rng_len, List.length_map]; omega, ?_⟩
  rw [range_filter]
  refine comp_ints (fun i => decide (0 < wi ws i)) (fun i hi K hK => ?_) ?_
  · have hi : i < ws.length := List.mem_range.mp hi
    walk_at "dl"
    refine ⟨_, at_w hi, ?_⟩
    try walk_at "dl"
    by_cases h : 0 < wi ws i
    · simp only [h, decide_true, if_true] at hK ⊢
      exact hK
    · simp only [h, decide_false, if_false, Bool.false_eq_true] at hK ⊢
      exact hK
  rw [show (List.range ws.length).filter (fun i => decide (0 < wi ws i)) = AA ws from rfl]
  refine fun p => ⟨Nat.zero_le _, fun p1 => ⟨(shN_nat _).shaped (by decide), rfl, ?_⟩⟩
  rw [eqv_map_nil]
  by_cases hA : AA ws = []
  · rw [if_pos (by simp [hA])]
    simp only [if_true]
    have rn : r = none := rate_unique AA_pos hr (r' := none) (.inl hA)
    subst rn
    exact q
  rw [if_neg (by simp [hA])]
  refine ⟨(fil lA).1, (fil lA).2, ?_⟩
  refine comp_map (fun i => fr (mf ms i)) (fun i hi K hK => ?_) ?_
  · walk_at "dl"
    exact ⟨_, at_m (by rw [hD.len]; exact (AA_mem.mp hi).1), hK⟩
  have oks : ∀ z ∈ (AA ws).map (mf ms), Ok 20 z := fun z hz => by
    obtain ⟨i, hi, rfl⟩ := List.mem_map.mp hz
    exact (hD.m (AA_mem.mp hi).1).2
  have os := ok_sum oks
  rw [List.length_map] at os
  have os' : Ok 400 ((AA ws).map (mf ms)).sum := os.mono (by omega)
  refine fun p2 => ⟨_, (AA ws).map (mf ms), rfl, by rw [List.map_map]; rfl, ⟨20, oks, by rw [List.length_map]; omega⟩, ?_⟩
  unfold sp__law_below sp_is_less sp_pair
  try walk_at "dl"
  refine ⟨fr_pr os' (by decide), pr_one hD.c0.2 (by decide), ?_⟩
  rw [intR]
  by_cases hlt : ((AA ws).map (mf ms)).sum < (c : Rat)
  · rw [if_pos hlt]
    have rn : r = none := rate_unique AA_pos hr (r' := none) (.inr hlt)
    subst rn
    exact q
  rw [if_neg hlt]
  refine ⟨(fil lA).1, (fil lA).2, ?_⟩
  refine comp_map (fun i => .tuple [.int (i : Nat), .tuple [.int (mf ms i).num, .int ((mf ms i).den * wi ws i)]]) (fun i hi K hK => ?_) ?_
  · have il := (AA_mem.mp hi).1
    have oi := (hD.m il).2
    walk_at "dl"
    refine ⟨_, at_m (by rw [hD.len]; exact il), ?_⟩
    try walk_at "dl"
    refine ⟨_, at_m (by rw [hD.len]; exact il), ?_⟩
    try walk_at "dl"
    refine ⟨_, at_w il, ?_⟩
    try walk_at "dl"
    exact ⟨(oi.bd.2.cmul (hD.w il).2 (by decide)).ok, hK⟩
  obtain ⟨q0, rfl⟩ : ∃ q0, r = some q0 := by
    cases r with
    | some q0 => exact ⟨q0, rfl⟩
    | none =>
      exfalso
      rcases hr with e | e
      · exact hA e
      · exact hlt e
  refine fun p3 => ⟨limK ms ws, by unfold limK; rw [List.map_map]; rfl, ?_, ?_⟩
  · unfold limK
    rw [List.map_map]
    exact List.pairwise_map.mpr (AA_nodup.imp fun h e => h (by
      have e2 := Sum.inl.inj e
      omega))
  try walk_at "dl"
  refine ⟨(fil lA).1, ?_⟩
  refine forWP_of (fun l δ => ∃ pre L best a6 a7 a8 a9 a10 a11, l = L.map (fun i => PyData.int (i : Nat)) ∧ AA ws = pre ++ L ∧ (best = none ∨ best = some q0) ∧ ((∃ j ∈ pre, Valid (mf ms) (wf ws) (AA ws) c j) → best = some q0) ∧
    δ = [some (.d (.tuple (ms.map fr))), some (.d (.list (ws.map PyData.int))), some (.d (.int c)), some (.d (natD (AA ws))), some (.dic (limK ms ws)), some (.d (optD best)), a6, a7, a8, a9, a10, a11]) _ _
    ⟨[], AA ws, none, none, none, none, none, none, none, rfl, rfl, .inl rfl, (fun ⟨j, hj, _⟩ => by cases hj), rfl⟩ ?_ ?_
  · rintro δ ⟨pre, L, best, a6, a7, a8, a9, a10, a11, e1, e2, e3, e4, rfl⟩
    have : L = [] := by simpa using e1.symm
    subst this
    obtain ⟨j, hj, v⟩ := valid_ex AA_pos AA_nodup hr
    have eb := e4 ⟨j, by rw [e2] at hj; simpa using hj, v⟩
    subst eb
    walk_at "dl"
    exact q
  · rintro x l δ ⟨pre, L, best, a6, a7, a8, a9, a10, a11, e1, e2, e3, e4, rfl⟩ T hT
    cases L with
    | nil => cases e1
    | cons j L =>
      rw [List.map_cons] at e1
      cases e1
      have hj : j ∈ AA ws := by rw [e2]; simp
      refine rate_body hD hr (ho q0 rfl) hj e3 (E := { nx := T, rt := Qd, ct := T, bk := _ }) fun best' b1 b2 b3 a6 a7 a8 a9 a10 a11 => ?_
      refine hT _ ⟨pre ++ [j], L, best', a6, a7, a8, a9, a10, a11, rfl, by rw [e2]; simp, b1, ?_, rfl⟩
      rintro ⟨i, hi, v⟩
      rcases List.mem_append.mp hi with z | z
      · exact b2 (e4 ⟨i, z, v⟩)
      · have : i = j := by simpa using z
        subst this
        exact b3 v
end DL

-- part L9
/-! k09: the law -/
namespace DL
open PySem PySem.Spec PyProof.Rows L2 K09
local macro_rules | `(tactic| walk_at "dl") => `(tactic| simp only [tsSeq, tsAsg, tsIf, tsNext, tsRet, tsRetN, tsRetOwn, tsDrop, tsNever, tsPar, tsAug, toD, frz_eq, frzK_d, frzK_own, frzAt, tbBor, tvBor, tdB, tdCall, tvVar, tdVar, tvC, tv2, tvTup, tdLst, tvIf, tvAnd, tvOr, tvNot, tbOf_eq, boolK_b, tdLc, tiSeq, itemsD, wipeD, tsCont, tsBreak, tiMax, tiRng1, tiZip, tiZip3, seqD_l, seqD_t, dTupleOf,  dNotIn, dIn, tsFrzAft, eqv_map_nil, natD, tbAnd, tbOr, tbNot, tgName, tgNil, tgCons, tgTup, arCons, arNil, dI_i, dAdd_i, dAdd_t, dAdd_s, dSub, dMul, dDiv, dDivA, dMod, dPow, dNeg_eq, negK_i, dCmp_i, dLt, dLe, dGt, dGe, dEq, dNe, dIsN, dNotN, dIx_l, dIx_t, dIx_s, dGcd, dAbs, dMax2, dMin2, dInt1, allD, noOwn, startD, fr, tvSt, tvTurn, tvPop, tsStPut, tiCells, tvIsi, tvIsi2, dRepr, dEqS, tvDget,
  List.map_cons, List.map_nil, List.length_cons, List.length_nil, Nat.reduceAdd, Nat.reduceSub, Nat.zero_add, List.replicate, List.cons_append, List.nil_append, List.getElem?_cons_zero, List.getElem?_cons_succ, List.set_cons_zero, List.set_cons_succ, Option.some.injEq, S.d.injEq, S.v.injEq, S.dic.injEq, PyData.int.injEq, PyData.bool.injEq, PyData.tuple.injEq, PyData.list.injEq, List.cons.injEq, exists_eq_left', exists_eq_left, exists_eq_right, true_and, and_true, Option.map_some, atI_0, atI_1, sL1, sL2, sL3, sL4, Option.map, eqv_int, shaped_int, dv_self, and_assoc, exists_and_left, decide_eq_true_eq])
/-- items h i, i in L; those with p give f i -/
theorem compWP_if {g : TGD} {tt : TB} {te : TV} {δ : Sl} {Q : List D → Prop} (h f : Nat → D) (p : Nat → Bool) : ∀ (L : List Nat) (acc : List D), (∀ i ∈ L, ∀ K : Option D → Prop, K (if p i = true then some (f i) else none) → g (.d (h i)) δ fun δ' => tt δ' fun b => if b = true then te δ' fun y => K (some y) else K none) →
    Q (acc ++ (L.filter p).map f) → compWP g tt te δ Q (L.map h) acc
  | [], acc, _, q => by
    unfold compWP
    simpa using q
  | i :: L, acc, hh, q => by
    have ih : ∀ acc', Q (acc' ++ (L.filter p).map f) → compWP g tt te δ Q (L.map h) acc' := fun acc' q' => compWP_if h f p L acc' (fun y hy => hh y (List.mem_cons_of_mem _ hy)) q'
    refine hh i (List.mem_cons_self ..) (fun o => match o with
      | some y => compWP g tt te δ Q (L.map h) (acc ++ [y])
      | none => compWP g tt te δ Q (L.map h) acc) ?_
    by_cases hp : p i = true
    · rw [if_pos hp]
      refine ih _ ?_
      rw [List.filter_cons_of_pos hp] at q
      simpa using q
    · rw [if_neg hp]
      refine ih _ ?_
      rw [List.filter_cons_of_neg hp] at q
      exact q
/-- each item gives nothing or something with P -/
theorem compWP_opt {g : TGD} {tt : TB} {te : TV} {δ : Sl} {Q : List D → Prop} (P : D → Prop) : ∀ (xs acc : List D), (∀ x ∈ xs, ∀ K : Option D → Prop, K none → (∀ y, P y → K (some y)) → g (.d x) δ fun δ' => tt δ' fun b => if b = true then te δ' fun y => K (some y) else K none) →
    (∀ ys, ys.length ≤ xs.length → (∀ y ∈ ys, P y) → Q (acc ++ ys)) → compWP g tt te δ Q xs acc
  | [], acc, _, q => by
    unfold compWP
    simpa using q [] (Nat.le_refl _) (fun _ h => by cases h)
  | x :: xs, acc, h, q => by
    have hh : ∀ z ∈ xs, ∀ K : Option D → Prop, K none → (∀ y, P y → K (some y)) → g (.d z) δ fun δ' => tt δ' fun b => if b = true then te δ' fun y => K (some y) else K none := fun z hz => h z (List.mem_cons_of_mem _ hz)
    refine h x (List.mem_cons_self ..) (fun o => match o with
      | some y => compWP g tt te δ Q xs (acc ++ [y])
      | none => compWP g tt te δ Q xs acc) ?_ fun y hy => ?_
    · exact compWP_opt P xs acc hh fun ys hl hp => q ys (Nat.le_succ_of_le hl) hp
    · refine compWP_opt P xs (acc ++ [y]) hh fun ys hl hp => ?_
      rw [List.append_assoc]
      refine q (y :: ys) (by simpa using hl) fun z hz => ?_
      rcases List.mem_cons.mp hz with e | e
      · rw [e]; exact hy
      · exact hp z e
/-- a comprehension without tests: what each item gives -/
theorem compWP_each {g : TGD} {te : TV} {δ : Sl} {Q : List D → Prop} (P : D → Prop) : ∀ (xs acc : List D), (∀ x ∈ xs, ∀ K : D → Prop, (∀ y, P y → K y) → g (.d x) δ fun δ' => te δ' K) →
    (∀ ys, ys.length = xs.length → (∀ y ∈ ys, P y) → Q (acc ++ ys)) → compWP g tbYes te δ Q xs acc
  | [], acc, _, q => by
    unfold compWP
    simpa using q [] rfl (fun _ h => by cases h)
  | x :: xs, acc, h, q => by
    unfold compWP tbYes
    simp only [if_true]
    refine h x (List.mem_cons_self ..) _ fun y hy => ?_
    refine compWP_each P xs (acc ++ [y]) (fun z hz => h z (List.mem_cons_of_mem _ hz)) fun ys hl hp => ?_
    rw [List.append_assoc]
    refine q (y :: ys) (by simp [hl]) fun z hz => ?_
    rcases List.mem_cons.mp hz with e | e
    · rw [e]; exact hy
    · exact hp z e
theorem frs_of {p : Rat → Prop} : ∀ {ys : List D}, (∀ y ∈ ys, ∃ q, y = fr q ∧ p q) → ∃ qs : List Rat, ys = qs.map fr ∧ ∀ q ∈ qs, p q
  | [], _ => ⟨[], rfl, fun _ h => by cases h⟩
  | y :: ys, h => by
    obtain ⟨q, rfl, hq⟩ := h y (List.mem_cons_self ..)
    obtain ⟨qs, rfl, hp⟩ := frs_of (p := p) fun z hz => h z (List.mem_cons_of_mem _ hz)
    exact ⟨q :: qs, rfl, fun z hz => by
      rcases List.mem_cons.mp hz with e | e
      · rw [e]; exact hq
      · exact hp z e⟩
theorem ints_of {p : Int → Prop} : ∀ {ys : List D}, (∀ y ∈ ys, ∃ q, y = .int q ∧ p q) → ∃ qs : List Int, ys = qs.map PyData.int ∧ ∀ q ∈ qs, p q
  | [], _ => ⟨[], rfl, fun _ h => by cases h⟩
  | y :: ys, h => by
    obtain ⟨q, rfl, hq⟩ := h y (List.mem_cons_self ..)
    obtain ⟨qs, rfl, hp⟩ := ints_of (p := p) fun z hz => h z (List.mem_cons_of_mem _ hz)
    exact ⟨q :: qs, rfl, fun z hz => by
      rcases List.mem_cons.mp hz with e | e
      · rw [e]; exact hq
      · exact hp z e⟩
def r1__law_begun : TSD := tsAsg (tdLc (tiSeq (tvVar 0)) (tgName 2) (tbOf (tv2 dGe (frz (tdB dAbs (arCons (toD (tvVar 2)) (arNil)))) (tv2 dPow (tvC (.int 10)) (tvC (.int 18))))) (tv2 dSub (frz (tdB dAbs (arCons (toD (tvVar 2)) (arNil)))) (tv2 dPow (tvC (.int 10)) (tvC (.int 18)))) [2]) (tgName 1)
def r2__law_begun : TD := tdLc (tiSeq (tvVar 0)) (tgName 2) (tbYes) (frz (tdB dAbs (arCons (toD (tvVar 2)) (arNil)))) [2]
theorem pu__law_begun {ns : List Int} (hl : ns.length < sizeLine) (Q : S → Prop) (q : ∀ (c : Addr) (cs : List Int), cs.length ≤ 2 ^ 62 → Q (.own c (cs.map PyData.int))) :
    r1__law_begun { nx := fun δ => (∃ (g : Addr) (gs : List Int), δ[1]? = some (some (.own g (gs.map PyData.int)))) ∧ r2__law_begun δ Q, rt := fun _ => False } (startD ["script", "great", "cell"] [.d (.list (ns.map PyData.int))]) := by
  have sz : sizeLine ≤ 2 ^ 62 := by decide
  unfold r1__law_begun r2__law_begun
  walk_at "dl"
  refine ⟨by rw [List.length_map]; omega, by rw [List.length_map]; exact hl, ?_⟩
  refine compWP_opt (fun y => ∃ z, y = .int z ∧ True) _ _ (fun x hx K k0 k1 => ?_) fun ys hy hp => ?_
  · obtain ⟨z, _, rfl⟩ := List.mem_map.mp hx
    walk_at "dl"
    have cp : CPow 10 18 := ⟨by decide, by decide, by decide⟩
    refine ⟨cp, ?_⟩
    generalize (if z < 0 then -z else z) = y
    split
    · exact ⟨cp, k1 _ ⟨_, rfl, trivial⟩⟩
    · exact k0
  · obtain ⟨gs, rfl, _⟩ := ints_of (p := fun _ => True) hp
    refine fun p => ⟨⟨p, gs, rfl⟩, by rw [List.length_map]; omega, by rw [List.length_map]; exact hl, ?_⟩
    refine compWP_each (fun y => ∃ z, y = .int z ∧ True) _ _ (fun x hx K k1 => ?_) fun ys hy hp => ?_
    · obtain ⟨z, _, rfl⟩ := List.mem_map.mp hx
      walk_at "dl"
      exact k1 _ ⟨_, rfl, trivial⟩
    · obtain ⟨cs, rfl, _⟩ := ints_of (p := fun _ => True) hp
      rw [List.length_map, List.length_map] at hy
      exact fun p2 => q p2 cs (by omega)
def rb_law_0 (st : Addr) (cs : List Int) (Ed : XD → Prop) : TSD := tsSeq (tsAsg (toD (tv2 dAdd (tvC (.int 1)) (frz (tdCall 2 (sp__law_draw st) (fun _ => False) (arCons (tdVar 1) (arCons (toD (tvC (.int 6))) (arNil))))))) (tgName 3)) (tsSeq (tsAsg (toD (frz (tdB dTupleOf (arCons (toD (frz (tdLc (tiMax 64 (tiRng1 (tvVar 3))) (tgName 11) (tbYes) (frz (tdCall 2 sp__law_frac (fun _ => False) (arCons (toD (frz (tdCall 2 (sp__law_draw st) (fun _ => False) (arCons (tdVar 1) (arCons (toD (tvC (.int 40))) (arNil)))))) (arCons (toD (tv2 dAdd (tvC (.int 1)) (frz (tdCall 2 (sp__law_draw st) (fun _ => False) (arCons (tdVar 1) (arCons (toD (tvC (.int 4))) (arNil))))))) (arNil))))) [11]))) (arNil))))) (tgName 4)) (tsSeq (tsFrzAft 5 (tsAsg (tdLc (tiMax 64 (tiRng1 (tvVar 3))) (tgName 11) (tbYes) (frz (tdCall 2 (sp__law_pick st) (fun _ => False) (arCons (tdVar 1) (arCons (toD (frz (tdLst (arCons (toD (tvC (.int 0))) (arCons (toD (tvC (.int 1))) (arCons (toD (tvC (.int 1))) (arCons (toD (tv2 dAdd (tvC (.int 1)) (frz (tdCall 2 (sp__law_draw st) (fun _ => False) (arCons (tdVar 1) (arCons (toD (tvC (.int 100))) (arNil))))))) (arNil)))))))) (arNil))))) [11]) (tgName 5))) (tsSeq (tsAsg (toD (frz (tdCall 1 sp__law_sum (fun _ => False) (arCons (toD (frz (tdLc (tiZip (tvVar 4) (tvVar 5)) (tgTup 2 (tgCons (tgName 12) (tgCons (tgName 13) (tgNil)))) (tbOf (tv2 dGt (tvVar 13) (tvC (.int 0)))) (tvVar 12) [12, 13]))) (arNil))))) (tgName 6)) (tsSeq (tsAsg (toD (frz (tdCall 2 (sp__law_pick st) (fun _ => False) (arCons (tdVar 1) (arCons (toD (frz (tdLst (arCons (toD (tv2 dAdd (tvC (.int 1)) (frz (tdCall 2 (sp__law_draw st) (fun _ => False) (arCons (tdVar 1) (arCons (toD (tvC (.int 60))) (arNil))))))) (arCons (toD (frz (tdB dMax2 (arCons (toD (tv2 dDiv (tv2 dIx (tvVar 6) (tvC (.int 0))) (tv2 dIx (tvVar 6) (tvC (.int 1))))) (arCons (toD (tvC (.int 1))) (arNil)))))) (arCons (toD (frz (tdB dMax2 (arCons (toD (tv2 dDiv (tv2 dIx (tvVar 6) (tvC (.int 0))) (tv2 dIx (tvVar 6) (tvC (.int 1))))) (arCons (toD (tvC (.int 1))) (arNil)))))) (arCons (toD (tv2 dAdd (tv2 dDiv (tv2 dIx (tvVar 6) (tvC (.int 0))) (tv2 dIx (tvVar 6) (tvC (.int 1)))) (tvC (.int 1)))) (arNil)))))))) (arNil)))))) (tgName 7)) (tsSeq (tsAsg (toD (tvTup (arCons (toD (frz (tdCall 3 sp_rate_for (fun _ => False) (arCons (toD (tvVar 4)) (arCons (toD (tvVar 5)) (arCons (toD (tvVar 7)) (arNil))))))) (arCons (toD (frz (tdCall 3 sp__law_rate (fun _ => False) (arCons (toD (tvVar 4)) (arCons (toD (tvVar 5)) (arCons (toD (tvVar 7)) (arNil))))))) (arNil))))) (tgTup 2 (tgCons (tgName 8) (tgCons (tgName 9) (tgNil))))) (tsSeq (tsIf (tbOr (tbNot (tbOf (frz (tdCall 2 sp__law_is (fun _ => False) (arCons (toD (tvVar 8)) (arCons (toD (tvVar 9)) (arNil))))))) (tbAnd (tbOf (tv2 dNe (tv2 dIsN (tvVar 8) (tvC .none)) (frz (tdCall 2 sp__law_below (fun _ => False) (arCons (toD (tvVar 6)) (arCons (toD (tvTup (arCons (toD (tvVar 7)) (arCons (toD (tvC (.int 1))) (arNil))))) (arNil))))))) (tbOf (tv2 dGt (tv2 dIx (tvVar 6) (tvC (.int 0))) (tvC (.int 0)))))) (tsRet (toD (tvC (.bool false)))) (tsNext)) (tsSeq (tsIf (tbOf (tv2 dIsN (tvVar 8) (tvC .none))) (tsCont) (tsNext)) (tsSeq (tsAsg (toD (frz (tdCall 3 sp_payments_at (fun _ => False) (arCons (toD (tvVar 4)) (arCons (toD (tvVar 5)) (arCons (toD (tvVar 8)) (arNil))))))) (tgName 10)) (tsSeq (tsIf (tbOr (tbNot (tbOf (frz (tdCall 2 sp__law_is (fun _ => False) (arCons (toD (tvVar 10)) (arCons (toD (frz (tdCall 3 sp__law_paid (fun _ => False) (arCons (toD (tvVar 4)) (arCons (toD (tvVar 5)) (arCons (toD (tvVar 8)) (arNil))))))) (arNil))))))) (tbOf (tv2 dNe (frz (tdCall 1 sp__law_sum (fun _ => False) (arCons (toD (tvVar 10)) (arNil)))) (tvTup (arCons (toD (tvVar 7)) (arCons (toD (tvC (.int 1))) (arNil))))))) (tsRet (toD (tvC (.bool false)))) (tsNext)) (tsSeq (tsIf (tbOf (tv2 dNe (frz (tdLc (tiZip3 (tvVar 10) (tvVar 4) (tvVar 5)) (tgTup 3 (tgCons (tgName 14) (tgCons (tgName 12) (tgCons (tgName 13) (tgNil))))) (tbOr (tbOf (frz (tdCall 2 sp__law_below (fun _ => False) (arCons (toD (tvVar 12)) (arCons (toD (tvVar 14)) (arNil)))))) (tbAnd (tbOf (tv2 dEq (tvVar 13) (tvC (.int 0)))) (tbOf (tv2 dNe (tvVar 14) (tvTup (arCons (toD (tvC (.int 0))) (arCons (toD (tvC (.int 1))) (arNil)))))))) (tvC (.int 1)) [12, 13, 14])) (frz (tdLst (arNil))))) (tsRet (toD (tvC (.bool false)))) (tsNext)) (tsIf (tbOf (tv2 dNe (frz (tdLc (tiZip3 (tvVar 10) (tvVar 4) (tvVar 5)) (tgTup 3 (tgCons (tgName 14) (tgCons (tgName 12) (tgCons (tgName 13) (tgNil))))) (tbAnd (tbOf (frz (tdCall 2 sp__law_below (fun _ => False) (arCons (toD (tvVar 14)) (arCons (toD (tvVar 12)) (arNil)))))) (tbOf (tv2 dNe (tvVar 14) (frz (tdCall 2 sp__law_mul (fun _ => False) (arCons (toD (tvVar 8)) (arCons (toD (tvTup (arCons (toD (tvVar 13)) (arCons (toD (tvC (.int 1))) (arNil))))) (arNil)))))))) (tvC (.int 1)) [12, 13, 14])) (frz (tdLst (arNil))))) (tsRet (toD (tvC (.bool false)))) (tsNext))))))))))))
def r_law (st : Addr) (cs : List Int) (Ed : XD → Prop) : TSD := tsSeq (tsFor (tiMax 64 (tiRng1 (tv2 dAdd (tvC (.int 12)) (frz (tdB dMin2 (arCons (toD (frz (tdB dLen (arCons (toD (tvVar 0)) (arNil))))) (arCons (toD (tvC (.int 20))) (arNil)))))))) (tgName 2) (rb_law_0 st cs (fun _ => False))) (tsRet (toD (tvAnd (tv2 dIsN (frz (tdCall 3 sp_rate_for (fun _ => False) (arCons (toD (tvTup (arCons (toD (tvTup (arCons (toD (tvC (.int 1))) (arCons (toD (tvC (.int 1))) (arNil))))) (arNil)))) (arCons (toD (frz (tdLst (arCons (toD (tvC (.int 0))) (arNil))))) (arCons (toD (tvC (.int 1))) (arNil)))))) (tvC .none)) (tv2 dEq (frz (tdCall 3 sp_rate_for (fun _ => False) (arCons (toD (tvTup (arCons (toD (tvTup (arCons (toD (tvC (.int 1))) (arCons (toD (tvC (.int 1))) (arNil))))) (arCons (toD (tvTup (arCons (toD (tvC (.int 0))) (arCons (toD (tvC (.int 1))) (arNil))))) (arNil))))) (arCons (toD (frz (tdLst (arCons (toD (tvC (.int 1))) (arCons (toD (tvC (.int 5))) (arNil)))))) (arCons (toD (tvC (.int 1))) (arNil)))))) (tvTup (arCons (toD (tvC (.int 1))) (arCons (toD (tvC (.int 1))) (arNil))))))))
theorem bd_small {n : Int} (h : n.natAbs < 256) : Bd 8999 n := Nat.lt_of_lt_of_le h (Nat.pow_le_pow_right (n := 2) (i := 8) (by decide) (by decide))
theorem bd_small' {n : Int} (h : n.natAbs < 256) : Bd 130 n := Nat.lt_of_lt_of_le h (Nat.pow_le_pow_right (n := 2) (i := 8) (by decide) (by decide))
theorem dv_nonneg {a b : Int} (ha : 0 ≤ a) (hb : 0 < b) : 0 ≤ dv a b := by
  have h := dvlt (a := a) (b := b) (c := 0) (d := 1) hb (by decide)
  rw [intR] at h
  have e : ((0 : Int) : Rat) = 0 := rfl
  rw [e] at h
  by_cases z : dv a b < 0
  · have := h.mp z
    omega
  · grind
theorem okD_fr (q : Rat) {n : Nat} : okD (n + 2) (fr q) := by
  refine ⟨show 2 < sizeLine by decide, fun y hy => ?_⟩
  simp only [List.mem_cons, List.not_mem_nil, or_false] at hy
  rcases hy with e | e <;> subst e <;> trivial
theorem shL_fr {q : Rat} (h : Ok 1900 q) : shL 3849 (fr q) := by
  refine (shL_tup (n := 1921) fun y hy => ?_).mono (by simp)
  simp only [List.mem_cons, List.not_mem_nil, or_false] at hy
  rcases hy with e | e
  · subst e; exact shL_int (Nat.lt_of_lt_of_le (h.bd.1.log (by decide)) (by decide))
  · subst e; exact shL_int (Nat.lt_of_lt_of_le (h.bd.2.log (by decide)) (by decide))
theorem same_optD {r : Option Rat} (h : ∀ q, r = some q → Ok 600 q) : okD 6 (optD r) ∧ (optD r).showable = true ∧ (optD r).shown.length ≤ sizeLine := by
  have sz : 100000 ≤ sizeLine := by decide
  cases r with
  | none => exact ⟨trivial, rfl, Nat.le_trans shL_none.2 (by omega)⟩
  | some q =>
    have := shL_fr ((h q rfl).mono (by decide))
    exact ⟨okD_fr q, this.1, Nat.le_trans this.2 (by omega)⟩
theorem give_ok {ms : List Rat} {ws : List Int} {c : Int} (hD : Dat ms ws c) {q : Rat} (oq : Ok 600 q) {i : Nat} (hi : i < ws.length) : Ok 620 (give (mf ms) (wf ws) q i) := by
  unfold give
  split
  · exact (hD.m hi).2.mono (by decide)
  · exact oq.mul (ok_int (hD.w hi).2 (by decide))
theorem same_pay {ms : List Rat} {ws : List Int} {c : Int} (hD : Dat ms ws c) {q : Rat} (oq : Ok 600 q) : okD 6 (payD ms ws q) ∧ (payD ms ws q).showable = true ∧ (payD ms ws q).shown.length ≤ sizeLine := by
  have sz : 100000 ≤ sizeLine := by decide
  have lw := hD.le
  have el : ((List.range ws.length).map fun i => fr (give (mf ms) (wf ws) q i)).length = ws.length := by rw [List.length_map, List.length_range]
  have sh := shL_tup (n := 3849) (xs := (List.range ws.length).map fun i => fr (give (mf ms) (wf ws) q i)) fun y hy => by
    obtain ⟨i, hi, rfl⟩ := List.mem_map.mp hy
    exact shL_fr ((give_ok hD oq (List.mem_range.mp hi)).mono (by decide))
  rw [el] at sh
  refine ⟨⟨by rw [el]; omega, fun y hy => ?_⟩, sh.1, Nat.le_trans sh.2 (by omega)⟩
  obtain ⟨i, hi, rfl⟩ := List.mem_map.mp hy
  exact okD_fr _
theorem zip3_ws {ms : List Rat} {ws : List Int} {c : Int} (hD : Dat ms ws c) (f : Nat → D) : zipD3 ((List.range ws.length).map f) (ms.map fr) (ws.map PyData.int) = (List.range ws.length).map fun i => PyData.tuple [f i, fr (mf ms i), .int (wi ws i)] := by
  refine List.ext_getElem? fun i => ?_
  by_cases hi : i < ws.length
  · have e1 : (zipD3 ((List.range ws.length).map f) (ms.map fr) (ws.map PyData.int)).length = ws.length := by rw [zipD3_len, List.length_map, List.length_map, List.length_map, List.length_range, hD.len]; simp
    have h2 : i < (zipD3 ((List.range ws.length).map f) (ms.map fr) (ws.map PyData.int)).length := by rw [e1]; exact hi
    have e2 : (zipD3 ((List.range ws.length).map f) (ms.map fr) (ws.map PyData.int))[i]? = some (zipD3 ((List.range ws.length).map f) (ms.map fr) (ws.map PyData.int))[i] := List.getElem?_eq_getElem h2
    obtain ⟨x, y, z, e3, e4, e5, e6⟩ := zipD3_get e2
    rw [List.getElem?_map, List.getElem?_range hi] at e3
    rw [List.getElem?_map, (getD_mem (xs := ms) (d := 0) (by rw [hD.len]; exact hi)).2] at e4
    rw [List.getElem?_map, (getD_mem (xs := ws) (d := 0) hi).2] at e5
    cases e3
    cases e4
    cases e5
    rw [e2, e6, List.getElem?_map, List.getElem?_range hi]
    rfl
  · rw [List.getElem?_eq_none (by rw [zipD3_len, List.length_map, List.length_map, List.length_map]; omega), List.getElem?_eq_none (by simp; omega)]
/-- one round -/
theorem law_round {st : Addr} {cs : List Int} {E : EndsD} {a0 a2 a3 a4 a5 a6 a7 a8 a9 a10 a11 a12 a13 a14 : Option S} (T : ∀ a2 a3 a4 a5 a6 a7 a8 a9 a10 a11 a12 a13 a14, E.nx [a0, some (.v (.ref st)), a2, a3, a4, a5, a6, a7, a8, a9, a10, a11, a12, a13, a14]) (Tc : E.ct = E.nx) :
    rb_law_0 st cs (fun _ => False) E [a0, some (.v (.ref st)), a2, a3, a4, a5, a6, a7, a8, a9, a10, a11, a12, a13, a14] := by
  have sz : 16 < sizeLine := by decide
  unfold rb_law_0
  walk_at "dl"
  refine ⟨6, rfl, by decide, bd_small (by decide), fun n0 h0 h1 => ?_⟩
  walk_at "dl"
  have m0 : 1 ≤ 1 + n0 ∧ 1 + n0 ≤ 6 := by omega
  generalize 1 + n0 = many at m0 ⊢
  refine ⟨by omega, by omega, by rw [rng_len]; omega, by rw [rng_len]; omega, ?_⟩
  refine compWP_each (fun y => ∃ q, y = fr q ∧ (0 ≤ q ∧ Ok 20 q)) _ _ (fun x hx K hK => ?_) fun ys hl hy => ?_
  · walk_at "dl"
    refine ⟨40, rfl, by decide, bd_small (by decide), fun n1 h1 h2 => ?_⟩
    walk_at "dl"
    refine ⟨4, rfl, by decide, bd_small (by decide), fun n2 h3 h4 => ?_⟩
    walk_at "dl"
    refine ⟨by omega, bd_small (by omega), ?_⟩
    refine hK _ ⟨_, rfl, dv_nonneg h1 (by omega), ok_dv (by omega) ?_ ?_⟩
    · unfold Bd; have : (2 : Nat) ^ 20 = 1048576 := by decide
      omega
    · unfold Bd; have : (2 : Nat) ^ 20 = 1048576 := by decide
      omega
  rw [rng_len] at hl
  obtain ⟨ms, rfl, hms⟩ := frs_of hy
  rw [List.length_map] at hl
  refine fun p1 => ?_
  try walk_at "dl"
  refine ⟨by omega, by omega, by rw [rng_len]; omega, by rw [rng_len]; omega, ?_⟩
  refine compWP_each (fun y => ∃ z, y = .int z ∧ (0 ≤ z ∧ Bd 20 z)) _ _ (fun x hx K hK => ?_) fun ys hl2 hy2 => ?_
  · walk_at "dl"
    refine ⟨100, rfl, by decide, bd_small (by decide), fun n3 h5 h6 => ?_⟩
    walk_at "dl"
    refine fun p2 => ⟨_, _, rfl, rfl, by simp, by simp, fun y hy => ?_⟩
    have : (2 : Nat) ^ 20 = 1048576 := by decide
    simp only [List.mem_cons, List.not_mem_nil, or_false] at hy
    rcases hy with e | e | e | e <;> subst e <;> exact hK _ ⟨_, rfl, by omega, by unfold Bd; omega⟩
  rw [rng_len] at hl2
  obtain ⟨ws, rfl, hws⟩ := ints_of hy2
  rw [List.length_map] at hl2
  have D1 : Dat ms ws 1 := ⟨by omega, by omega, fun q hq => (hms q hq).1, fun q hq => (hms q hq).2, hws, by decide, bd_small' (by decide)⟩
  have l6 : ws.length ≤ 6 := by omega
  have lA : (AA ws).length ≤ 6 := Nat.le_trans AA_len l6
  refine fun p2 => ?_
  try walk_at "dl"
  refine ⟨by rw [List.length_map]; omega, by rw [zipD_len, List.length_map, List.length_map]; omega, ?_⟩
  rw [zip_ws D1]
  refine compWP_if _ (fun i => fr (mf ms i)) (fun i => decide (0 < wi ws i)) _ _ (fun i hi K hK => ?_) ?_
  · walk_at "dl"
    by_cases hz : 0 < wi ws i
    · simp only [hz, decide_true, if_true] at hK ⊢
      exact hK
    · simp only [hz, decide_false, if_false, Bool.false_eq_true] at hK ⊢
      exact hK
  rw [List.nil_append, show (List.range ws.length).filter (fun i => decide (0 < wi ws i)) = AA ws from rfl]
  have oks : ∀ z ∈ (AA ws).map (mf ms), Ok 20 z := fun z hz => by
    obtain ⟨i, hi, rfl⟩ := List.mem_map.mp hz
    exact (D1.m (AA_mem.mp hi).1).2
  have os := ok_sum oks
  rw [List.length_map] at os
  have os' : Ok 127 ((AA ws).map (mf ms)).sum := os.mono (by omega)
  refine fun p3 => ⟨_, (AA ws).map (mf ms), rfl, by rw [List.map_map]; rfl, ⟨20, oks, by rw [List.length_map]; omega⟩, ?_⟩
  have eW : ((AA ws).map (mf ms)).sum = sumOn (mf ms) (AA ws) := rfl
  generalize eW2 : ((AA ws).map (mf ms)).sum = W at os' eW ⊢
  rw [frzK_d]
  refine ⟨60, rfl, by decide, bd_small (by decide), fun n4 h7 h8 => ?_⟩
  walk_at "dl"
  have W0 : 0 ≤ W := by
    rw [eW]
    have := sum_le (f := fun _ => 0) (g := mf ms) (A := AA ws) fun i hi => (D1.m (AA_mem.mp hi).1).1
    rw [sum_zero (f := fun _ => 0) (A := AA ws) fun _ _ => rfl] at this
    exact this
  have Wn : 0 ≤ W.num := Rat.num_nonneg.mpr W0
  have cd : CDivW W.num W.den := ⟨den_pos' W, Nat.lt_of_lt_of_le (os'.bd.2.log (by decide)) (by decide)⟩
  have f0 : 0 ≤ W.num / W.den := Int.ediv_nonneg Wn (Int.le_of_lt (den_pos' W))
  have f1 : W.num / W.den ≤ W.num := Int.ediv_le_self _ Wn
  have f2 : W.num.natAbs < 2 ^ 127 := os'.1
  generalize W.num / W.den = fl at f0 f1 ⊢
  refine ⟨cd, cd, cd, fun p4 => ⟨_, _, rfl, rfl, by simp, by simp, fun y hy => ?_⟩⟩
  obtain ⟨c, rfl, c0, cb⟩ : ∃ c, y = .int c ∧ 0 < c ∧ Bd 130 c := by
    have e1 : (2 : Nat) ^ 130 = 8 * 2 ^ 127 := by decide
    have e2 : 100 < 2 ^ 127 := by decide
    simp only [List.mem_cons, List.not_mem_nil, or_false] at hy
    rcases hy with e | e | e | e <;> subst e <;> refine ⟨_, rfl, ?_, ?_⟩ <;> (try unfold Bd) <;> (try rw [e1]) <;> (try split) <;> omega
  have D2 : Dat ms ws c := ⟨D1.len, D1.le, D1.m0, D1.mo, D1.w0, c0, cb⟩
  rw [frzK_d]
  refine ⟨ms, ws, c, rfl, D2, fun r hr ho => ?_⟩
  rw [frzK_d]
  refine ⟨ms, ws, c, r, rfl, D2, hr, ho, ?_⟩
  rw [frzK_d]
  have so := same_optD ho
  refine ⟨optD r, rfl, so.1, so.2.1, so.2.2, ?_⟩
  walk_at "dl"
  simp only [Bool.not_true, Bool.false_eq_true, if_false]
  show Pr W.num W.den ∧ Pr c 1 ∧ True ∧ _
  refine ⟨fr_pr os' (by decide), pr_one cb (by decide), trivial, ?_⟩
  rw [frzK_d]
  simp only [dv_nd, intR]
  cases r with
  | none =>
    refine ⟨rfl, rfl, ?_⟩
    have fin : ∀ {p q : Prop} [Decidable p] [Decidable q] {x y z : Prop}, (p → ¬ q) → y → z → (if p then (if q then x else y) else z) := fun {p q} _ _ {x y z} h hy hz => by
      by_cases hp : p
      · rw [if_pos hp, if_neg (h hp)]; exact hy
      · rw [if_neg hp]; exact hz
    have ct : E.ct [a0, some (.v (.ref st)), a2, some (.d (.int many)), some (.d (.tuple (ms.map fr))), some (.d (.list (ws.map PyData.int))), some (.d (.tuple [.int W.num, .int W.den])), some (.d (.int c)), some (.d (optD none)), some (.d (optD none)), a10, a11, a12, a13, a14] := by
      rw [Tc]
      exact T ..
    refine fin (fun h h2 => ?_) ?_ ?_
    · rcases hr with e | e
      · rw [e] at eW
        rw [eW, sum_nil] at h2
        exact absurd h2 (by decide)
      · rw [← eW] at e
        rw [decide_eq_true e] at h
        exact absurd h (by decide)
    · rw [if_pos (show isNone (optD none) = true from rfl)]; exact ct
    · rw [if_pos (show isNone (optD none) = true from rfl)]; exact ct
  | some q =>
    have hle : ¬ W < (c : Rat) := by
      have := hr.1.2
      rw [← eW] at this
      grind
    rw [decide_eq_false hle]
    refine ⟨rfl, rfl, ?_⟩
    have b1 : PyData.eqv (.bool (isNone (optD (some q)))) (.bool false) = true := rfl
    have b2 : isNone (optD (some q)) = false := rfl
    rw [b1, b2, if_neg (by decide), if_neg (by decide)]
    have oq := ho q rfl
    refine ⟨ms, ws, c, q, rfl, D2, oq, ?_⟩
    rw [frzK_d]
    refine ⟨ms, ws, c, q, rfl, D2, oq, ?_⟩
    rw [frzK_d]
    have sp := same_pay D2 oq
    refine ⟨_, rfl, sp.1, sp.2.1, sp.2.2, ?_⟩
    rw [frzK_d, boolK_b]
    simp only [Bool.not_true, Bool.false_eq_true, if_false]
    have gz : ∀ i < ws.length, ¬ 0 < wi ws i → give (mf ms) (wf ws) q i = 0 := fun i hi h => by
      have h1 := (D2.w hi).1
      have h2 := (D2.m hi).1
      have e : wi ws i = 0 := by omega
      unfold give wf
      rw [e]
      have z : ((0 : Int) : Rat) = 0 := rfl
      rw [z]
      grind
    have gs : ((List.range ws.length).map (give (mf ms) (wf ws) q)).sum = (c : Rat) := by
      show sumOn (give (mf ms) (wf ws) q) (List.range ws.length) = _
      rw [sum_all gz]
      exact hr.2.2.1
    refine ⟨_, (List.range ws.length).map (give (mf ms) (wf ws) q), rfl, by rw [List.map_map]; rfl, ⟨620, fun z hz => ?_, by rw [List.length_map, List.length_range]; omega⟩, ?_⟩
    · obtain ⟨i, hi, rfl⟩ := List.mem_map.mp hz
      exact give_ok D2 oq (List.mem_range.mp hi)
    rw [gs, frzK_d]
    have ec : (PyData.tuple [.int c, .int 1]) = fr ((c : Int) : Rat) := by unfold fr; rw [Rat.num_intCast, Rat.den_intCast]; rfl
    rw [ec]
    refine ⟨(shN_fr _).shaped (by decide), (shN_fr _).shaped (by decide), ?_⟩
    rw [SeqAt.eqv_refl _ (shN_fr ((c : Int) : Rat)).1]
    rw [if_neg (by decide)]
    unfold payD
    have lz : ∀ f : Nat → D, (zipD3 ((List.range ws.length).map f) (ms.map fr) (ws.map PyData.int)).length < sizeLine := fun f => by rw [zip3_ws D2, List.length_map, List.length_range]; omega
    refine ⟨_, rfl, by rw [List.length_map, List.length_range]; omega, lz _, ?_⟩
    rw [zip3_ws D2]
    refine compWP_if _ (fun _ => .none) (fun _ => false) _ _ (fun i hi K hK => ?_) ?_
    · have hi := List.mem_range.mp hi
      simp only [Bool.false_eq_true, if_false] at hK
      unfold sp__law_below sp_is_less sp_pair
      walk_at "dl"
      have gle : ¬ mf ms i < give (mf ms) (wf ws) q i := by
        unfold give
        split <;> grind
      refine ⟨fr_pr (D2.m hi).2 (by decide), fr_pr (give_ok D2 oq hi) (by decide), ?_⟩
      rw [if_neg gle]
      by_cases hz : wi ws i = 0
      · rw [if_pos hz]
        have g0 := gz i hi (by omega)
        rw [g0]
        refine ⟨rfl, rfl, ?_⟩
        exact hK
      · rw [if_neg hz, if_neg (by decide)]
        exact hK
    have ff : ∀ L : List Nat, L.filter (fun _ => false) = [] := fun L => List.filter_eq_nil_iff.mpr fun _ _ => by decide
    rw [ff, List.map_nil, List.append_nil]
    refine fun p5 => ⟨Nat.zero_le _, fun p6 => ⟨rfl, rfl, ?_⟩⟩
    rw [if_neg (by decide)]
    refine ⟨_, rfl, by rw [List.length_map, List.length_range]; omega, lz _, ?_⟩
    rw [zip3_ws D2]
    refine compWP_if _ (fun _ => .none) (fun _ => false) _ _ (fun i hi K hK => ?_) ?_
    · have hi := List.mem_range.mp hi
      simp only [Bool.false_eq_true, if_false] at hK
      have og := give_ok D2 oq hi
      unfold sp__law_below sp_is_less sp__law_mul sp_times sp_pair optD
      walk_at "dl"
      refine ⟨fr_pr og (by decide), fr_pr (D2.m hi).2 (by decide), ?_⟩
      by_cases hg : give (mf ms) (wf ws) q i < mf ms i
      · rw [if_pos hg]
        refine ⟨fr_pr oq (by decide), pr_one (D2.w hi).2 (by decide), ?_⟩
        rw [intR]
        have ge : give (mf ms) (wf ws) q i = q * ((wi ws i : Int) : Rat) := by
          unfold give at hg ⊢
          by_cases h : mf ms i < q * wf ws i
          · rw [if_pos h] at hg
            grind
          · rw [if_neg h]
            rfl
        rw [ge]
        have e1 : PyData.eqv (fr (q * ((wi ws i : Int) : Rat))) (fr (q * ((wi ws i : Int) : Rat))) = true := SeqAt.eqv_refl _ (shN_fr _).1
        have s1 : SeqAt.shaped (fr (q * ((wi ws i : Int) : Rat))) = true := (shN_fr _).shaped (by decide)
        refine ⟨s1, s1, ?_⟩
        refine Eq.mp (congrArg (fun b : Bool => if (!b) = true then K (some (PyData.int 1)) else K none) e1.symm) ?_
        exact hK
      · rw [if_neg hg, if_neg (by decide)]
        exact hK
    rw [ff, List.map_nil, List.append_nil]
    refine fun p7 => ⟨Nat.zero_le _, fun p8 => ⟨rfl, rfl, ?_⟩⟩
    rw [if_neg (by decide)]
    exact T ..
theorem pu_law {st : Addr} {cs ns : List Int} (hl : ns.length ≤ 63) : r_law st cs (fun _ => False) { nx := fun _ => False, rt := fun s => s = .d (.bool true) } (some (.d (.list (ns.map PyData.int))) :: some (.v (.ref st)) :: List.replicate 13 none) := by
  unfold r_law tsFor dLen
  walk_at "dl"
  refine ⟨_, rfl, ?_⟩
  rw [List.length_map]
  have hn : (if (20 : Int) < (ns.length : Nat) then (20 : Int) else (ns.length : Nat)) ≤ 20 ∧ 0 ≤ (if (20 : Int) < (ns.length : Nat) then (20 : Int) else (ns.length : Nat)) := by split <;> omega
  generalize (if (20 : Int) < (ns.length : Nat) then (20 : Int) else (ns.length : Nat)) = k at hn ⊢
  refine ⟨by omega, by omega, by rw [rng_len]; omega, ?_⟩
  refine forWP_of (fun _ δ => ∃ a2 a3 a4 a5 a6 a7 a8 a9 a10 a11 a12 a13 a14, δ = [some (.d (.list (ns.map PyData.int))), some (.v (.ref st)), a2, a3, a4, a5, a6, a7, a8, a9, a10, a11, a12, a13, a14]) _ _ ⟨none, none, none, none, none, none, none, none, none, none, none, none, none, rfl⟩ ?_ ?_
  · rintro δ ⟨a2, a3, a4, a5, a6, a7, a8, a9, a10, a11, a12, a13, a14, rfl⟩
    walk_at "dl"
    have o1 : Ok 20 (1 : Rat) := ok_int (i := 1) (by decide) (by decide)
    have o0 : Ok 20 (0 : Rat) := ok_int (i := 0) (by decide) (by decide)
    refine fun p => ⟨[1], [0], 1, rfl, ⟨rfl, by decide, fun q hq => ?_, fun q hq => ?_, fun z hz => ?_, by decide, bd_small' (by decide)⟩, fun r hr _ => ?_⟩
    · have : q = 1 := by simpa using hq
      subst this; decide
    · have : q = 1 := by simpa using hq
      subst this; exact o1
    · have : z = 0 := by simpa using hz
      subst this; decide
    rw [frzK_d]
    have rn : r = none := rate_unique AA_pos hr (r' := none) (.inl (by decide))
    subst rn
    rw [if_pos (show isNone (optD none) = true from rfl)]
    refine fun p2 => ⟨[1, 0], [1, 5], 1, rfl, ⟨rfl, by decide, fun q hq => ?_, fun q hq => ?_, fun z hz => ?_, by decide, bd_small' (by decide)⟩, fun r hr _ => ?_⟩
    · simp only [List.mem_cons, List.not_mem_nil, or_false] at hq
      rcases hq with e | e <;> subst e <;> decide
    · simp only [List.mem_cons, List.not_mem_nil, or_false] at hq
      rcases hq with e | e <;> subst e <;> assumption
    · simp only [List.mem_cons, List.not_mem_nil, or_false] at hz
      rcases hz with e | e <;> subst e <;> decide
    rw [frzK_d]
    have r1 : r = some 1 := by
      refine rate_unique AA_pos hr (r' := some 1) ?_
      have eA : AA [1, 5] = [0, 1] := by decide
      rw [eA]
      exact ⟨⟨by simp, by decide +kernel⟩, by decide, by decide +kernel, 0, by simp, by decide +kernel⟩
    subst r1
    exact ⟨rfl, rfl, SeqAt.eqv_refl (fr 1) (shN_fr 1).1⟩
  · rintro x r δ ⟨a2, a3, a4, a5, a6, a7, a8, a9, a10, a11, a12, a13, a14, rfl⟩ T hT
    refine law_round (cs := cs) (E := { nx := T, rt := _, ct := T, bk := _ }) (fun a2 a3 a4 a5 a6 a7 a8 a9 a10 a11 a12 a13 a14 => hT _ ⟨a2, a3, a4, a5, a6, a7, a8, a9, a10, a11, a12, a13, a14, rfl⟩) rfl
end DL

-- part Hd9
namespace DL
open PySem PySem.Spec PyProof.Rows L2
def dd_lowest : He.DefD := ⟨("lowest", none), "lowest", "lowest", defArgs s_lowest, defBody s_lowest, defScope s_lowest, [], []⟩
def dd_plus : He.DefD := ⟨("plus", none), "plus", "plus", defArgs s_plus, defBody s_plus, defScope s_plus, [], []⟩
def dd_minus : He.DefD := ⟨("minus", none), "minus", "minus", defArgs s_minus, defBody s_minus, defScope s_minus, [], []⟩
def dd_times : He.DefD := ⟨("times", none), "times", "times", defArgs s_times, defBody s_times, defScope s_times, [], []⟩
def dd_over : He.DefD := ⟨("over", none), "over", "over", defArgs s_over, defBody s_over, defScope s_over, [], []⟩
def dd_is_less : He.DefD := ⟨("is_less", none), "is_less", "is_less", defArgs s_is_less, defBody s_is_less, defScope s_is_less, [], []⟩
def dd_lesser : He.DefD := ⟨("lesser", none), "lesser", "lesser", defArgs s_lesser, defBody s_lesser, defScope s_lesser, [], []⟩
def dd_total : He.DefD := ⟨("total", none), "total", "total", defArgs s_total, defBody s_total, defScope s_total, [], []⟩
def dd_rate_for : He.DefD := ⟨("rate_for", none), "rate_for", "rate_for", defArgs s_rate_for, defBody s_rate_for, defScope s_rate_for, [], []⟩
def dd_payments_at : He.DefD := ⟨("payments_at", none), "payments_at", "payments_at", defArgs s_payments_at, defBody s_payments_at, defScope s_payments_at, [], []⟩
def dd__law_begun : He.DefD := ⟨("_law_begun", none), "_law_begun", "_law_begun", defArgs s__law_begun, defBody s__law_begun, defScope s__law_begun, [], []⟩
def dd__law_mixed : He.DefD := ⟨("_law_mixed", none), "_law_mixed", "_law_mixed", defArgs s__law_mixed, defBody s__law_mixed, defScope s__law_mixed, [], []⟩
def dd__law_draw : He.DefD := ⟨("_law_draw", none), "_law_draw", "_law_draw", defArgs s__law_draw, defBody s__law_draw, defScope s__law_draw, [], []⟩
def dd__law_pick : He.DefD := ⟨("_law_pick", none), "_law_pick", "_law_pick", defArgs s__law_pick, defBody s__law_pick, defScope s__law_pick, [], []⟩
def dd__law_plain : He.DefD := ⟨("_law_plain", none), "_law_plain", "_law_plain", defArgs s__law_plain, defBody s__law_plain, defScope s__law_plain, [], []⟩
def dd__law_is : He.DefD := ⟨("_law_is", none), "_law_is", "_law_is", defArgs s__law_is, defBody s__law_is, defScope s__law_is, [], []⟩
def dd__law_frac : He.DefD := ⟨("_law_frac", none), "_law_frac", "_law_frac", defArgs s__law_frac, defBody s__law_frac, defScope s__law_frac, [], []⟩
def dd__law_add : He.DefD := ⟨("_law_add", none), "_law_add", "_law_add", defArgs s__law_add, defBody s__law_add, defScope s__law_add, [], []⟩
def dd__law_sub : He.DefD := ⟨("_law_sub", none), "_law_sub", "_law_sub", defArgs s__law_sub, defBody s__law_sub, defScope s__law_sub, [], []⟩
def dd__law_mul : He.DefD := ⟨("_law_mul", none), "_law_mul", "_law_mul", defArgs s__law_mul, defBody s__law_mul, defScope s__law_mul, [], []⟩
def dd__law_below : He.DefD := ⟨("_law_below", none), "_law_below", "_law_below", defArgs s__law_below, defBody s__law_below, defScope s__law_below, [], []⟩
def dd__law_sum : He.DefD := ⟨("_law_sum", none), "_law_sum", "_law_sum", defArgs s__law_sum, defBody s__law_sum, defScope s__law_sum, [], []⟩
def dd__law_rate : He.DefD := ⟨("_law_rate", none), "_law_rate", "_law_rate", defArgs s__law_rate, defBody s__law_rate, defScope s__law_rate, [], []⟩
def dd__law_paid : He.DefD := ⟨("_law_paid", none), "_law_paid", "_law_paid", defArgs s__law_paid, defBody s__law_paid, defScope s__law_paid, [], []⟩
def dd_law : He.DefD := ⟨("law", none), "law", "law", defArgs s_law, defBody s_law, defScope s_law, [], []⟩
def fnL : List He.DefD := [dd_lowest, dd_plus, dd_minus, dd_times, dd_over, dd_is_less, dd_lesser, dd_total, dd_rate_for, dd_payments_at, dd__law_begun, dd__law_mixed, dd__law_draw, dd__law_pick, dd__law_plain, dd__law_is, dd__law_frac, dd__law_add, dd__law_sub, dd__law_mul, dd__law_below, dd__law_sum, dd__law_rate, dd__law_paid, dd_law]
def faL : List He.Fa := [.glo "lowest", .glo "plus", .glo "minus", .glo "times", .glo "over", .glo "is_less", .glo "lesser", .glo "total", .glo "rate_for", .glo "payments_at", .glo "_law_begun", .glo "_law_mixed", .glo "_law_draw", .glo "_law_pick", .glo "_law_plain", .glo "_law_is", .glo "_law_frac", .glo "_law_add", .glo "_law_sub", .glo "_law_mul", .glo "_law_below", .glo "_law_sum", .glo "_law_rate", .glo "_law_paid", .glo "law", .free "tuple", .free "isinstance", .free "dict", .free "max", .free "range", .free "sum", .free "int", .free "list", .free "abs", .free "len", .free "enumerate", .free "str", .free "repr", .free "min", .free "zip", .glo "ZERO"]
def exB (K : PySem.W.Frag) : Bool := He.eqO (PySem.W.nsIn K mainGlobals "gcd") (some (some (.builtin "math.gcd"))) && He.tupB K "ZERO" [.int 0, .int 1]
abbrev RR : PySem.W.OpenRow := PySem.W.OpenLaw.row PySem.Challenge.rw_pursebyvotes_k09_whole_rates_and_payment
abbrev hkL : PySem.W.Hook := He.hookX 4 faL fnL [] [] exB
def obL (s : PySem.W.SharedT) : He.AlX := He.obsX 4 faL fnL [] [] exB (HandSHeadRun.getT s)
theorem obL_eq (s : PySem.W.SharedT) : obL s = hkL.obs s.abs := He.obsX_eq (HandSHeadRun.getT_eq s)
theorem runL (w : World) : HandSHeadRun.RunEqI RR (PySem.W.view RR.prog [32]) hkL obL 3000 ["gcd", "__name__", "PurseError", "BadRatio", "ZERO", "lowest", "plus", "minus", "times", "over", "is_less", "lesser", "total", "rate_for", "payments_at", "_law_begun", "_law_mixed", "_law_draw", "_law_pick", "_law_plain", "_law_is", "_law_frac", "_law_add", "_law_sub", "_law_mul", "_law_below", "_law_sum", "_law_rate", "_law_paid"] w := by
  unfold HandSHeadRun.RunEqI
  kernel_rfl
end DL

-- part O9
namespace DL
open PySem PySem.Spec PyProof.Rows L2
section
variable {P : Program} {w : World} {K : PySem.W.Frag} {mg : Str → Option Value} {base : Heap} {ρ : Hp → Prop} {st g c : Addr} {cs : List Int}
theorem ok_rate_for (T : Txt K mg) : FnD P w K mg base ρ 4 (He.ga K "rate_for") (fdOf K "rate_for") ["moneys", "row", "cost"] sp_rate_for := FunD.data T.d_rate_for.F sc_rate_for (by decide) fun cdv A outer s H E W Ed ok hr => ⟨r_rate_for Ed, dss_cons (ds_setLc (i := 3) rfl sc_rate_for.nd rfl rfl (sw_true rfl rfl rfl (by decide +kernel)) (di_enum T.b_enumerate (vv 1)) (blkOk_by (own := [("at", 9), ("worth", 10)]) (by kernel_rfl)) (fun _ _ _ _ _ => dgc_tup rfl (dgcs_cons (dgc_name (i := 9) sc_rate_for.nd rfl (by first | exact Or.inl rfl | exact Or.inr rfl)) (dgcs_cons (dgc_name (i := 10) sc_rate_for.nd rfl (by first | exact Or.inl rfl | exact Or.inr rfl)) (dgcs_nil)))) (fun _ _ _ _ _ => dts_one (dt_gt (vv 10) (dv_int))) (fun _ _ _ _ _ => dv_tup (da_d (dv_frz (de_call (ok_over T) DC.blk_ok (hr.mono (by decide)) T.d_over.g T.d_over.F.kp (b_over T.d_over) (da_d (dv_ix (vv 0) (vv 9)) (da_d (dv_tup (da_d (vv 10) (da_d (dv_int) (da_nil)))) (da_nil))))) (da_d (vv 9) (da_nil))))) (dss_cons (ds_if (dt_bor 3 (dt_w (dw_or (dt_eq hr (vv 3) (dv_frz (de_lst (da_nil)))) (dw_or1 (dt_val (dv_frz (de_call (ok_is_less T) ok (hr.mono (by decide)) T.d_is_less.g T.d_is_less.F.kp (b_is_less T.d_is_less) (da_d (dv_frz (de_call (ok_total T) ok (hr.mono (by decide)) T.d_total.g T.d_total.F.kp (b_total T.d_total) (da_d (dv_frz (de_lc rfl sc_rate_for.nd (di_seq (vv 3)) (blkOk_by (own := [("at", 9), ("level", 11)]) (by kernel_rfl)) (fun _ _ _ _ _ => dgc_tup rfl (dgcs_cons (dgc_name (i := 11) sc_rate_for.nd rfl (by first | exact Or.inl rfl | exact Or.inr rfl)) (dgcs_cons (dgc_name (i := 9) sc_rate_for.nd rfl (by first | exact Or.inl rfl | exact Or.inr rfl)) (dgcs_nil)))) (fun _ _ _ _ _ => dts_nil) (fun _ _ _ _ _ => dv_ix (vv 0) (vv 9)))) (da_nil)))) (da_d (dv_tup (da_d (vv 2) (da_d (dv_int) (da_nil)))) (da_nil)))))))))) (dss_one (ds_ret (de_dv (dv_non)))) (dss_nil)) (dss_cons (ds_par (i := 4) (j := 5) rfl sc_rate_for.nd rfl rfl (by decide) rfl rfl (de_dv (dv_tup (da_d (vv 2) (da_d (dv_int) (da_nil))))) (de_dv (dv_frz (de_callB (cr_sum rfl) dcall_sum rfl T.b_sum (by decide +kernel) (da_d (vv 1) (da_nil))))) rfl) (dss_one (ds_while (passes_of rfl) (dt_val (dv_bl)) (dss_cons (ds_set (i := 6) sc_rate_for.nd rfl (by first | exact Or.inl rfl | exact Or.inr rfl) (de_dv (dv_bor 3 (dv_ix (vv 3) (dv_int))))) (dss_cons (ds_forOwn (passes_of rfl) rfl (pv 3) (dg_name (i := 7) sc_rate_for.nd rfl (by first | exact Or.inl rfl | exact Or.inr rfl)) (dss_one (ds_set (i := 6) sc_rate_for.nd rfl (by first | exact Or.inl rfl | exact Or.inr rfl) (de_dv (dv_if (dt_val (dv_frz (de_call (ok_is_less T) ok (hr.mono (by decide)) T.d_is_less.g T.d_is_less.F.kp (b_is_less T.d_is_less) (da_d (dv_ix (vv 7) (dv_int)) (da_d (dv_ix (vv 6) (dv_int)) (da_nil)))))) (vv 7) (vv 6)))))) (dss_cons (ds_set (i := 8) sc_rate_for.nd rfl (by first | exact Or.inl rfl | exact Or.inr rfl) (de_dv (dv_frz (de_call (ok_lowest T) ok (hr.mono (by decide)) T.d_lowest.g T.d_lowest.F.kp (b_lowest T.d_lowest) (da_d (dv_ix (vv 4) (dv_int)) (da_d (dv_mul (dv_ix (vv 4) (dv_int)) (vv 5)) (da_nil))))))) (dss_cons (ds_if (dt_not (dt_val (dv_frz (de_call (ok_is_less T) ok (hr.mono (by decide)) T.d_is_less.g T.d_is_less.F.kp (b_is_less T.d_is_less) (da_d (dv_ix (vv 6) (dv_int)) (da_d (vv 8) (da_nil))))))) (dss_one (ds_ret (de_dv (vv 8)))) (dss_nil)) (dss_cons (ds_remove 3 hr (vv 6)) (dss_one (ds_par (i := 4) (j := 5) rfl sc_rate_for.nd rfl rfl (by decide) rfl rfl (de_dv (dv_frz (de_call (ok_minus T) ok (hr.mono (by decide)) T.d_minus.g T.d_minus.F.kp (b_minus T.d_minus) (da_d (vv 4) (da_d (dv_ix (vv 0) (dv_ix (vv 6) (dv_int))) (da_nil)))))) (de_dv (dv_sub (vv 5) (dv_ix (vv 1) (dv_ix (vv 6) (dv_int))))) rfl))))))))))), fun ss Qd hl h => pu_rate_for h⟩
theorem ok_payments_at (T : Txt K mg) : FnD P w K mg base ρ 3 (He.ga K "payments_at") (fdOf K "payments_at") ["moneys", "row", "rate"] sp_payments_at := FunD.data T.d_payments_at.F sc_payments_at (by decide) fun cdv A outer s H E W Ed ok hr => ⟨r_payments_at Ed, dss_one (ds_ret (de_callTy call_tuple_of dcall_tuple rfl T.b_tuple (by decide +kernel) (da_d (dv_frz (de_lc rfl sc_payments_at.nd (di_zip T.b_zip (vv 0) (vv 1)) (blkOk_by (own := [("money", 3), ("worth", 4)]) (by kernel_rfl)) (fun _ _ _ _ _ => dgc_tup rfl (dgcs_cons (dgc_name (i := 3) sc_payments_at.nd rfl (by first | exact Or.inl rfl | exact Or.inr rfl)) (dgcs_cons (dgc_name (i := 4) sc_payments_at.nd rfl (by first | exact Or.inl rfl | exact Or.inr rfl)) (dgcs_nil)))) (fun _ _ _ _ _ => dts_nil) (fun _ _ _ _ _ => dv_frz (de_call (ok_lesser T) DC.blk_ok (hr.mono (by decide)) T.d_lesser.g T.d_lesser.F.kp (b_lesser T.d_lesser) (da_d (vv 3) (da_d (dv_frz (de_call (ok_times T) DC.blk_ok (hr.mono (by decide)) T.d_times.g T.d_times.F.kp (b_times T.d_times) (da_d (vv 2) (da_d (dv_tup (da_d (vv 4) (da_d (dv_int) (da_nil)))) (da_nil))))) (da_nil))))))) (da_nil)))), fun ss Qd hl h => pu_payments_at h⟩
theorem ok__law_rate (T : Txt K mg) : FnD P w K mg base ρ 4 (He.ga K "_law_rate") (fdOf K "_law_rate") ["moneys", "row", "cost"] sp__law_rate := FunD.data T.d__law_rate.F sc__law_rate (by decide) fun cdv A outer s H E W Ed ok hr => ⟨r__law_rate Ed, dss_cons (ds_frzAft 3 (ds_setLc (i := 3) rfl sc__law_rate.nd rfl rfl (sw_true rfl rfl rfl (by decide +kernel)) (di_range1 T.b_range (dv_frz (de_len T.b_len (da_d (vv 1) (da_nil))))) (blkOk_by (own := [("at", 11)]) (by kernel_rfl)) (fun _ _ _ _ _ => dgc_name (i := 11) sc__law_rate.nd rfl (by first | exact Or.inl rfl | exact Or.inr rfl)) (fun _ _ _ _ _ => dts_one (dt_gt (dv_ix (vv 1) (vv 11)) (dv_int))) (fun _ _ _ _ _ => vv 11))) (dss_cons (ds_if (dt_w (dw_or (dt_eq hr (vv 3) (dv_frz (de_lst (da_nil)))) (dw_or1 (dt_val (dv_frz (de_call (ok__law_below T) ok (hr.mono (by decide)) T.d__law_below.g T.d__law_below.F.kp (b__law_below T.d__law_below) (da_d (dv_frz (de_call (ok__law_sum T) ok (hr.mono (by decide)) T.d__law_sum.g T.d__law_sum.F.kp (b__law_sum T.d__law_sum) (da_d (dv_frz (de_lc rfl sc__law_rate.nd (di_seq (vv 3)) (blkOk_by (own := [("at", 11)]) (by kernel_rfl)) (fun _ _ _ _ _ => dgc_name (i := 11) sc__law_rate.nd rfl (by first | exact Or.inl rfl | exact Or.inr rfl)) (fun _ _ _ _ _ => dts_nil) (fun _ _ _ _ _ => dv_ix (vv 0) (vv 11)))) (da_nil)))) (da_d (dv_tup (da_d (vv 2) (da_d (dv_int) (da_nil)))) (da_nil))))))))) (dss_one (ds_ret (de_dv (dv_non)))) (dss_nil)) (dss_cons (ds_set (i := 4) sc__law_rate.nd rfl (by first | exact Or.inl rfl | exact Or.inr rfl) (de_callTy (call_dictP rfl) dcall_dictP rfl T.b_dict (by decide +kernel) (da_d (dv_frz (de_lc rfl sc__law_rate.nd (di_seq (vv 3)) (blkOk_by (own := [("at", 11)]) (by kernel_rfl)) (fun _ _ _ _ _ => dgc_name (i := 11) sc__law_rate.nd rfl (by first | exact Or.inl rfl | exact Or.inr rfl)) (fun _ _ _ _ _ => dts_nil) (fun _ _ _ _ _ => dv_tup (da_d (vv 11) (da_d (dv_tup (da_d (dv_ix (dv_ix (vv 0) (vv 11)) (dv_int)) (da_d (dv_mul (dv_ix (dv_ix (vv 0) (vv 11)) (dv_int)) (dv_ix (vv 1) (vv 11))) (da_nil)))) (da_nil)))))) (da_nil)))) (dss_cons (ds_set (i := 5) sc__law_rate.nd rfl (by first | exact Or.inl rfl | exact Or.inr rfl) (de_dv (dv_non))) (dss_cons (ds_for (passes_of rfl) rfl (di_seq (vv 3)) (dg_name (i := 6) sc__law_rate.nd rfl (by first | exact Or.inl rfl | exact Or.inr rfl)) (dss_cons (ds_set (i := 7) sc__law_rate.nd rfl (by first | exact Or.inl rfl | exact Or.inr rfl) (de_dv (dv_frz (de_lc rfl sc__law_rate.nd (di_seq (vv 3)) (blkOk_by (own := [("at", 11)]) (by kernel_rfl)) (fun _ _ _ _ _ => dgc_name (i := 11) sc__law_rate.nd rfl (by first | exact Or.inl rfl | exact Or.inr rfl)) (fun _ _ _ _ _ => dts_one (dt_val (dv_frz (de_call (ok__law_below T) DC.blk_ok (hr.mono (by decide)) T.d__law_below.g T.d__law_below.F.kp (b__law_below T.d__law_below) (da_d (dv_dget hr (vis_d (i := 4)) (vv 11)) (da_d (dv_dget hr (vis_d (i := 4)) (vv 6)) (da_nil))))))) (fun _ _ _ _ _ => vv 11))))) (dss_cons (ds_frzAft 8 (ds_setLc (i := 8) rfl sc__law_rate.nd rfl rfl (sw_true rfl rfl rfl (by decide +kernel)) (di_seq (vv 3)) (blkOk_by (own := [("at", 11)]) (by kernel_rfl)) (fun _ _ _ _ _ => dgc_name (i := 11) sc__law_rate.nd rfl (by first | exact Or.inl rfl | exact Or.inr rfl)) (fun _ _ _ _ _ => dts_one (dt_notIn hr (vv 11) (vv 7))) (fun _ _ _ _ _ => vv 11))) (dss_cons (ds_set (i := 9) sc__law_rate.nd rfl (by first | exact Or.inl rfl | exact Or.inr rfl) (de_dv (dv_frz (de_call (ok__law_sub T) ok (hr.mono (by decide)) T.d__law_sub.g T.d__law_sub.F.kp (b__law_sub T.d__law_sub) (da_d (dv_tup (da_d (vv 2) (da_d (dv_int) (da_nil)))) (da_d (dv_frz (de_call (ok__law_sum T) ok (hr.mono (by decide)) T.d__law_sum.g T.d__law_sum.F.kp (b__law_sum T.d__law_sum) (da_d (dv_frz (de_lc rfl sc__law_rate.nd (di_seq (vv 7)) (blkOk_by (own := [("at", 11)]) (by kernel_rfl)) (fun _ _ _ _ _ => dgc_name (i := 11) sc__law_rate.nd rfl (by first | exact Or.inl rfl | exact Or.inr rfl)) (fun _ _ _ _ _ => dts_nil) (fun _ _ _ _ _ => dv_ix (vv 0) (vv 11)))) (da_nil)))) (da_nil))))))) (dss_cons (ds_set (i := 10) sc__law_rate.nd rfl (by first | exact Or.inl rfl | exact Or.inr rfl) (de_dv (dv_frz (de_call (ok__law_frac T) ok (hr.mono (by decide)) T.d__law_frac.g T.d__law_frac.F.kp (b__law_frac T.d__law_frac) (da_d (dv_ix (vv 9) (dv_int)) (da_d (dv_mul (dv_ix (vv 9) (dv_int)) (dv_frz (de_callB (cr_sum rfl) dcall_sum rfl T.b_sum (by decide +kernel) (da_d (dv_frz (de_lc rfl sc__law_rate.nd (di_seq (vv 8)) (blkOk_by (own := [("at", 11)]) (by kernel_rfl)) (fun _ _ _ _ _ => dgc_name (i := 11) sc__law_rate.nd rfl (by first | exact Or.inl rfl | exact Or.inr rfl)) (fun _ _ _ _ _ => dts_nil) (fun _ _ _ _ _ => dv_ix (vv 1) (vv 11)))) (da_nil))))) (da_nil))))))) (dss_one (ds_if (dt_w (dw_and (dt_gt (dv_ix (vv 10) (dv_int)) (dv_int)) (dw_and1 (dt_eq hr (dv_frz (de_lc rfl sc__law_rate.nd (di_seq (vv 8)) (blkOk_by (own := [("at", 11)]) (by kernel_rfl)) (fun _ _ _ _ _ => dgc_name (i := 11) sc__law_rate.nd rfl (by first | exact Or.inl rfl | exact Or.inr rfl)) (fun _ _ _ _ _ => dts_one (dt_val (dv_frz (de_call (ok__law_below T) DC.blk_ok (hr.mono (by decide)) T.d__law_below.g T.d__law_below.F.kp (b__law_below T.d__law_below) (da_d (dv_ix (vv 0) (vv 11)) (da_d (dv_frz (de_call (ok__law_mul T) DC.blk_ok (hr.mono (by decide)) T.d__law_mul.g T.d__law_mul.F.kp (b__law_mul T.d__law_mul) (da_d (vv 10) (da_d (dv_tup (da_d (dv_ix (vv 1) (vv 11)) (da_d (dv_int) (da_nil)))) (da_nil))))) (da_nil))))))) (fun _ _ _ _ _ => vv 11))) (dv_frz (de_lst (da_nil))))))) (dss_one (ds_if (dt_eq hr (dv_frz (de_lc rfl sc__law_rate.nd (di_seq (vv 7)) (blkOk_by (own := [("at", 11)]) (by kernel_rfl)) (fun _ _ _ _ _ => dgc_name (i := 11) sc__law_rate.nd rfl (by first | exact Or.inl rfl | exact Or.inr rfl)) (fun _ _ _ _ _ => dts_one (dt_val (dv_frz (de_call (ok__law_below T) DC.blk_ok (hr.mono (by decide)) T.d__law_below.g T.d__law_below.F.kp (b__law_below T.d__law_below) (da_d (dv_frz (de_call (ok__law_mul T) DC.blk_ok (hr.mono (by decide)) T.d__law_mul.g T.d__law_mul.F.kp (b__law_mul T.d__law_mul) (da_d (vv 10) (da_d (dv_tup (da_d (dv_ix (vv 1) (vv 11)) (da_d (dv_int) (da_nil)))) (da_nil))))) (da_d (dv_ix (vv 0) (vv 11)) (da_nil))))))) (fun _ _ _ _ _ => vv 11))) (dv_frz (de_lst (da_nil)))) (dss_one (ds_set (i := 5) sc__law_rate.nd rfl (by first | exact Or.inl rfl | exact Or.inr rfl) (de_dv (dv_if (dt_w (dw_or (dt_isN (vv 5) (dv_non)) (dw_or1 (dt_val (dv_frz (de_call (ok__law_below T) ok (hr.mono (by decide)) T.d__law_below.g T.d__law_below.F.kp (b__law_below T.d__law_below) (da_d (vv 10) (da_d (vv 5) (da_nil))))))))) (vv 10) (vv 5))))) (dss_nil))) (dss_nil)))))))) (dss_one (ds_ret (de_dv (vv 5)))))))), fun ss Qd hl h => pu__law_rate h⟩
theorem ok__law_paid (T : Txt K mg) : FnD P w K mg base ρ 3 (He.ga K "_law_paid") (fdOf K "_law_paid") ["moneys", "row", "rate"] sp__law_paid := FunD.data T.d__law_paid.F sc__law_paid (by decide) fun cdv A outer s H E W Ed ok hr => ⟨r__law_paid Ed, dss_cons (ds_set (i := 3) sc__law_paid.nd rfl (by first | exact Or.inl rfl | exact Or.inr rfl) (de_dv (dv_tup (da_nil)))) (dss_cons (ds_for (passes_of rfl) rfl (di_range1 T.b_range (dv_frz (de_len T.b_len (da_d (vv 1) (da_nil))))) (dg_name (i := 4) sc__law_paid.nd rfl (by first | exact Or.inl rfl | exact Or.inr rfl)) (dss_cons (ds_set (i := 5) sc__law_paid.nd rfl (by first | exact Or.inl rfl | exact Or.inr rfl) (de_dv (dv_frz (de_call (ok__law_mul T) ok (hr.mono (by decide)) T.d__law_mul.g T.d__law_mul.F.kp (b__law_mul T.d__law_mul) (da_d (vv 2) (da_d (dv_tup (da_d (dv_ix (vv 1) (vv 4)) (da_d (dv_int) (da_nil)))) (da_nil))))))) (dss_one (ds_set (i := 3) sc__law_paid.nd rfl (by first | exact Or.inl rfl | exact Or.inr rfl) (de_dv (dv_add (vv 3) (dv_tup (da_d (dv_if (dt_val (dv_frz (de_call (ok__law_below T) ok (hr.mono (by decide)) T.d__law_below.g T.d__law_below.F.kp (b__law_below T.d__law_below) (da_d (vv 5) (da_d (dv_ix (vv 0) (vv 4)) (da_nil)))))) (vv 5) (dv_ix (vv 0) (vv 4))) (da_nil))))))))) (dss_one (ds_ret (de_dv (vv 3))))), fun ss Qd hl h => pu__law_paid h⟩
end
section
variable {P : Program} {w : World} {K : PySem.W.Frag} {mg : Str → Option Value} {base : Heap}
theorem ok__law_begun (T : Txt K mg) : FnOk P w K mg base (L2.CX P w) 1 (He.ga K "_law_begun") (fdOf K "_law_begun") ["script"] (SpBegun K) := begun_ok T.d__law_begun.F sc__law_begun rfl (Or.inl rfl) fun cdv A outer s H E W ok hr => ⟨r1__law_begun, r2__law_begun, ds_setLc (i := 1) rfl sc__law_begun.nd rfl rfl (sw_true rfl rfl rfl (by decide +kernel)) (di_seq (vv 0)) (blkOk_by (own := [("cell", 2)]) (by kernel_rfl)) (fun _ _ _ _ _ => dgc_name (i := 2) sc__law_begun.nd rfl (by first | exact Or.inl rfl | exact Or.inr rfl)) (fun _ _ _ _ _ => dts_one (dt_ge (dv_frz (de_callB call_abs dcall_abs rfl T.b_abs (by decide +kernel) (da_d (vv 2) (da_nil)))) (dv_pow (dv_int) (dv_int)))) (fun _ _ _ _ _ => dv_sub (dv_frz (de_callB call_abs dcall_abs rfl T.b_abs (by decide +kernel) (da_d (vv 2) (da_nil)))) (dv_pow (dv_int) (dv_int))), de_lc rfl sc__law_begun.nd (di_seq (vv 0)) (blkOk_by (own := [("cell", 2)]) (by kernel_rfl)) (fun _ _ _ _ _ => dgc_name (i := 2) sc__law_begun.nd rfl (by first | exact Or.inl rfl | exact Or.inr rfl)) (fun _ _ _ _ _ => dts_nil) (fun _ _ _ _ _ => dv_frz (de_callB call_abs dcall_abs rfl T.b_abs (by decide +kernel) (da_d (vv 2) (da_nil)))), fun ns hl Q q => pu__law_begun hl Q q⟩
theorem quiet_caller {k : Nat} (hr : Room (k + 1) callerA) (env : Env) : Quiet k (callerA.deeper env) := ⟨hr.deeper env, rfl⟩
theorem ok_law (T : Txt K mg) : FnAt (· = callerA) P w K mg base (He.ga K "law") (fdOf K "law") ["script"] (LawSp K 63) := law_ok (by decide) T.d_law.F sc_law (by decide) ⟨19, ⟨rfl, by decide, by decide⟩⟩ fun cdv A outer s H E hA ok => by
  subst hA
  have hq : Quiet 19 (callerA.deeper (envOfC "law" (defScope s_law) s.heap.objs.size (He.ga K "law") cdv)) := quiet_caller ⟨rfl, by decide, by decide⟩ _
  have hr := hq.1
  exact ⟨_, fun st cs => r_law st cs (fun _ => False), ps_set (i := 1) sc_law.nd rfl (by first | exact Or.inl rfl | exact Or.inr rfl) (pe_call (ok__law_begun T) (hr.mono (by decide)) rfl T.d__law_begun.g T.d__law_begun.F.kp (b__law_begun T.d__law_begun) .nil (passes_call ok.tk fun _ _ _ _ z => z.elim) (pa_cons (pv 0) pa_nil)), fun st g c cs => kss_cons stK_mono (ks_for 64 stK_mono (passes_of rfl) rfl (ki_range1 T.b_range (kv_of fun _ => dv_add (dv_int) (dv_frz (de_callB (call_min2 rfl) dcall_min2 rfl T.b_min (by decide +kernel) (da_d (dv_frz (de_len T.b_len (da_d (vv 0) (da_nil)))) (da_d (dv_int) (da_nil))))))) (fun _ => dg_name (i := 2) sc_law.nd rfl (by first | exact Or.inl rfl | exact Or.inr rfl)) (kss_cons stK_mono (ks_set (i := 3) sc_law.nd rfl (by first | exact Or.inl rfl | exact Or.inr rfl) (ke_d (kv_add (kv_of fun _ => dv_int) (kv_frz (ke_call (ok__law_draw T) ok (hr.mono (by decide)) T.d__law_draw.g T.d__law_draw.F.kp (b__law_draw T.d__law_draw) (ka_cons (ke_of fun _ => rv 1) (ka_d (kv_of fun _ => dv_int) (ka_nil)))))))) (kss_cons stK_mono (ks_set (i := 4) sc_law.nd rfl (by first | exact Or.inl rfl | exact Or.inr rfl) (ke_d (kv_frz (ke_callTy call_tuple_of (fun _ => dcall_tuple) rfl T.b_tuple (by decide +kernel) (ka_d (kv_frz (ke_lc 64 stK_mono rfl sc_law.nd (ki_range1 T.b_range (kv_of fun _ => vv 3)) (blkOk_by (own := [("lap", 11)]) (by kernel_rfl)) (fun _ _ _ _ _ _ => dgc_name (i := 11) sc_law.nd rfl (by first | exact Or.inl rfl | exact Or.inr rfl)) (fun _ _ _ _ _ => kts_nil) (fun _ _ _ _ _ => kv_frz (ke_call (fnC_of fun _ => (ok__law_frac T)) DC.blk_ok (hr.mono (by decide)) T.d__law_frac.g T.d__law_frac.F.kp (b__law_frac T.d__law_frac) (ka_d (kv_frz (ke_call (ok__law_draw T) DC.blk_ok (hr.mono (by decide)) T.d__law_draw.g T.d__law_draw.F.kp (b__law_draw T.d__law_draw) (ka_cons (ke_of fun _ => rv 1) (ka_d (kv_of fun _ => dv_int) (ka_nil))))) (ka_d (kv_add (kv_of fun _ => dv_int) (kv_frz (ke_call (ok__law_draw T) DC.blk_ok (hr.mono (by decide)) T.d__law_draw.g T.d__law_draw.F.kp (b__law_draw T.d__law_draw) (ka_cons (ke_of fun _ => rv 1) (ka_d (kv_of fun _ => dv_int) (ka_nil)))))) (ka_nil))))))) (ka_nil)))))) (kss_cons stK_mono (ks_frzAft 5 (ks_setLc (i := 5) 64 stK_mono rfl sc_law.nd rfl rfl (sw_true rfl rfl rfl (by decide +kernel)) (ki_range1 T.b_range (kv_of fun _ => vv 3)) (blkOk_by (own := [("lap", 11)]) (by kernel_rfl)) (fun _ _ _ _ _ _ => dgc_name (i := 11) sc_law.nd rfl (by first | exact Or.inl rfl | exact Or.inr rfl)) (fun _ _ _ _ _ => kts_nil) (fun _ _ _ _ _ => kv_frz (ke_call (ok__law_pick T) DC.blk_ok (hr.mono (by decide)) T.d__law_pick.g T.d__law_pick.F.kp (b__law_pick T.d__law_pick) (ka_cons (ke_of fun _ => rv 1) (ka_d (kv_frz (ke_lst (ka_d (kv_of fun _ => dv_int) (ka_d (kv_of fun _ => dv_int) (ka_d (kv_of fun _ => dv_int) (ka_d (kv_add (kv_of fun _ => dv_int) (kv_frz (ke_call (ok__law_draw T) DC.blk_ok (hr.mono (by decide)) T.d__law_draw.g T.d__law_draw.F.kp (b__law_draw T.d__law_draw) (ka_cons (ke_of fun _ => rv 1) (ka_d (kv_of fun _ => dv_int) (ka_nil)))))) (ka_nil))))))) (ka_nil))))))) (kss_cons stK_mono (ks_of fun _ => ds_set (i := 6) sc_law.nd rfl (by first | exact Or.inl rfl | exact Or.inr rfl) (de_dv (dv_frz (de_call (ok__law_sum T) (ok.at fun _ h => h) (hr.mono (by decide)) T.d__law_sum.g T.d__law_sum.F.kp (b__law_sum T.d__law_sum) (da_d (dv_frz (de_lc rfl sc_law.nd (di_zip T.b_zip (vv 4) (vv 5)) (blkOk_by (own := [("money", 12), ("worth", 13)]) (by kernel_rfl)) (fun _ _ _ _ _ => dgc_tup rfl (dgcs_cons (dgc_name (i := 12) sc_law.nd rfl (by first | exact Or.inl rfl | exact Or.inr rfl)) (dgcs_cons (dgc_name (i := 13) sc_law.nd rfl (by first | exact Or.inl rfl | exact Or.inr rfl)) (dgcs_nil)))) (fun _ _ _ _ _ => dts_one (dt_gt (vv 13) (dv_int))) (fun _ _ _ _ _ => vv 12))) (da_nil)))))) (kss_cons stK_mono (ks_set (i := 7) sc_law.nd rfl (by first | exact Or.inl rfl | exact Or.inr rfl) (ke_d (kv_frz (ke_call (ok__law_pick T) ok (hr.mono (by decide)) T.d__law_pick.g T.d__law_pick.F.kp (b__law_pick T.d__law_pick) (ka_cons (ke_of fun _ => rv 1) (ka_d (kv_frz (ke_lst (ka_d (kv_add (kv_of fun _ => dv_int) (kv_frz (ke_call (ok__law_draw T) ok (hr.mono (by decide)) T.d__law_draw.g T.d__law_draw.F.kp (b__law_draw T.d__law_draw) (ka_cons (ke_of fun _ => rv 1) (ka_d (kv_of fun _ => dv_int) (ka_nil)))))) (ka_d (kv_of fun _ => dv_frz (de_callB (call_max2 rfl) dcall_max2 rfl T.b_max (by decide +kernel) (da_d (dv_div (dv_ix (vv 6) (dv_int)) (dv_ix (vv 6) (dv_int))) (da_d (dv_int) (da_nil))))) (ka_d (kv_of fun _ => dv_frz (de_callB (call_max2 rfl) dcall_max2 rfl T.b_max (by decide +kernel) (da_d (dv_div (dv_ix (vv 6) (dv_int)) (dv_ix (vv 6) (dv_int))) (da_d (dv_int) (da_nil))))) (ka_d (kv_of fun _ => dv_add (dv_div (dv_ix (vv 6) (dv_int)) (dv_ix (vv 6) (dv_int))) (dv_int)) (ka_nil))))))) (ka_nil))))))) (kss_of fun _ => dss_cons (ds_asg (de_dv (dv_tup (da_d (dv_frz (de_call (ok_rate_for T) (ok.at fun _ h => h) (hr.mono (by decide)) T.d_rate_for.g T.d_rate_for.F.kp (b_rate_for T.d_rate_for) (da_d (vv 4) (da_d (vv 5) (da_d (vv 7) (da_nil)))))) (da_d (dv_frz (de_call (ok__law_rate T) (ok.at fun _ h => h) (hr.mono (by decide)) T.d__law_rate.g T.d__law_rate.F.kp (b__law_rate T.d__law_rate) (da_d (vv 4) (da_d (vv 5) (da_d (vv 7) (da_nil)))))) (da_nil))))) (dg_tup rfl (dgs_cons (dg_name (i := 8) sc_law.nd rfl (by first | exact Or.inl rfl | exact Or.inr rfl)) (dgs_cons (dg_name (i := 9) sc_law.nd rfl (by first | exact Or.inl rfl | exact Or.inr rfl)) (dgs_nil))))) (dss_cons (ds_if (dt_w (dw_or (dt_not (dt_val (dv_frz (de_callAt (ok__law_is T) (ok.at fun _ h => h) (hq.mono (by decide)) T.d__law_is.g T.d__law_is.F.kp (b__law_is T.d__law_is) (da_d (vv 8) (da_d (vv 9) (da_nil))))))) (dw_or1 (dt_w (dw_and (dt_ne hr (dv_isN (vv 8) (dv_non)) (dv_frz (de_call (ok__law_below T) (ok.at fun _ h => h) (hr.mono (by decide)) T.d__law_below.g T.d__law_below.F.kp (b__law_below T.d__law_below) (da_d (vv 6) (da_d (dv_tup (da_d (vv 7) (da_d (dv_int) (da_nil)))) (da_nil)))))) (dw_and1 (dt_gt (dv_ix (vv 6) (dv_int)) (dv_int)))))))) (dss_one (ds_ret (de_dv (dv_bl)))) (dss_nil)) (dss_cons (ds_if (dt_isN (vv 8) (dv_non)) (dss_one (ds_continue)) (dss_nil)) (dss_cons (ds_set (i := 10) sc_law.nd rfl (by first | exact Or.inl rfl | exact Or.inr rfl) (de_dv (dv_frz (de_call (ok_payments_at T) (ok.at fun _ h => h) (hr.mono (by decide)) T.d_payments_at.g T.d_payments_at.F.kp (b_payments_at T.d_payments_at) (da_d (vv 4) (da_d (vv 5) (da_d (vv 8) (da_nil)))))))) (dss_cons (ds_if (dt_w (dw_or (dt_not (dt_val (dv_frz (de_callAt (ok__law_is T) (ok.at fun _ h => h) (hq.mono (by decide)) T.d__law_is.g T.d__law_is.F.kp (b__law_is T.d__law_is) (da_d (vv 10) (da_d (dv_frz (de_call (ok__law_paid T) (ok.at fun _ h => h) (hr.mono (by decide)) T.d__law_paid.g T.d__law_paid.F.kp (b__law_paid T.d__law_paid) (da_d (vv 4) (da_d (vv 5) (da_d (vv 8) (da_nil)))))) (da_nil))))))) (dw_or1 (dt_ne hr (dv_frz (de_call (ok__law_sum T) (ok.at fun _ h => h) (hr.mono (by decide)) T.d__law_sum.g T.d__law_sum.F.kp (b__law_sum T.d__law_sum) (da_d (vv 10) (da_nil)))) (dv_tup (da_d (vv 7) (da_d (dv_int) (da_nil)))))))) (dss_one (ds_ret (de_dv (dv_bl)))) (dss_nil)) (dss_cons (ds_if (dt_ne hr (dv_frz (de_lc rfl sc_law.nd (di_zip3 T.b_zip (vv 10) (vv 4) (vv 5)) (blkOk_by (own := [("money", 12), ("worth", 13), ("part", 14)]) (by kernel_rfl)) (fun _ _ _ _ _ => dgc_tup rfl (dgcs_cons (dgc_name (i := 14) sc_law.nd rfl (by first | exact Or.inl rfl | exact Or.inr rfl)) (dgcs_cons (dgc_name (i := 12) sc_law.nd rfl (by first | exact Or.inl rfl | exact Or.inr rfl)) (dgcs_cons (dgc_name (i := 13) sc_law.nd rfl (by first | exact Or.inl rfl | exact Or.inr rfl)) (dgcs_nil))))) (fun _ _ _ _ _ => dts_one (dt_w (dw_or (dt_val (dv_frz (de_call (ok__law_below T) (DC.blk_ok.at fun _ h => h) (hr.mono (by decide)) T.d__law_below.g T.d__law_below.F.kp (b__law_below T.d__law_below) (da_d (vv 12) (da_d (vv 14) (da_nil)))))) (dw_or1 (dt_w (dw_and (dt_eq hr (vv 13) (dv_int)) (dw_and1 (dt_ne hr (vv 14) (dv_tup (da_d (dv_int) (da_d (dv_int) (da_nil)))))))))))) (fun _ _ _ _ _ => dv_int))) (dv_frz (de_lst (da_nil)))) (dss_one (ds_ret (de_dv (dv_bl)))) (dss_nil)) (dss_one (ds_if (dt_ne hr (dv_frz (de_lc rfl sc_law.nd (di_zip3 T.b_zip (vv 10) (vv 4) (vv 5)) (blkOk_by (own := [("money", 12), ("worth", 13), ("part", 14)]) (by kernel_rfl)) (fun _ _ _ _ _ => dgc_tup rfl (dgcs_cons (dgc_name (i := 14) sc_law.nd rfl (by first | exact Or.inl rfl | exact Or.inr rfl)) (dgcs_cons (dgc_name (i := 12) sc_law.nd rfl (by first | exact Or.inl rfl | exact Or.inr rfl)) (dgcs_cons (dgc_name (i := 13) sc_law.nd rfl (by first | exact Or.inl rfl | exact Or.inr rfl)) (dgcs_nil))))) (fun _ _ _ _ _ => dts_one (dt_w (dw_and (dt_val (dv_frz (de_call (ok__law_below T) (DC.blk_ok.at fun _ h => h) (hr.mono (by decide)) T.d__law_below.g T.d__law_below.F.kp (b__law_below T.d__law_below) (da_d (vv 14) (da_d (vv 12) (da_nil)))))) (dw_and1 (dt_ne hr (vv 14) (dv_frz (de_call (ok__law_mul T) (DC.blk_ok.at fun _ h => h) (hr.mono (by decide)) T.d__law_mul.g T.d__law_mul.F.kp (b__law_mul T.d__law_mul) (da_d (vv 8) (da_d (dv_tup (da_d (vv 13) (da_d (dv_int) (da_nil)))) (da_nil)))))))))) (fun _ _ _ _ _ => dv_int))) (dv_frz (de_lst (da_nil)))) (dss_one (ds_ret (de_dv (dv_bl)))) (dss_nil))))))))))))))) (kss_of fun _ => dss_one (ds_ret (de_dv (dv_and (dv_isN (dv_frz (de_call (ok_rate_for T) (ok.at fun _ h => h) (hr.mono (by decide)) T.d_rate_for.g T.d_rate_for.F.kp (b_rate_for T.d_rate_for) (da_d (dv_tup (da_d (dv_tup (da_d (dv_int) (da_d (dv_int) (da_nil)))) (da_nil))) (da_d (dv_frz (de_lst (da_d (dv_int) (da_nil)))) (da_d (dv_int) (da_nil)))))) (dv_non)) (dv_one (dv_eq hr (dv_frz (de_call (ok_rate_for T) (ok.at fun _ h => h) (hr.mono (by decide)) T.d_rate_for.g T.d_rate_for.F.kp (b_rate_for T.d_rate_for) (da_d (dv_tup (da_d (dv_tup (da_d (dv_int) (da_d (dv_int) (da_nil)))) (da_d (dv_tup (da_d (dv_int) (da_d (dv_int) (da_nil)))) (da_nil)))) (da_d (dv_frz (de_lst (da_d (dv_int) (da_d (dv_int) (da_nil))))) (da_d (dv_int) (da_nil)))))) (dv_tup (da_d (dv_int) (da_d (dv_int) (da_nil)))))))))), by decide, fun st cs ns hl => pu_law hl⟩
end
end DL

-- part F9
namespace DL
open PySem PySem.Spec PyProof.Rows L2
theorem no_cx {P : Program} (w : World) (H : Hp) (s : Shared) (e : Value) (s' : Shared) (h : L2.CX P w [] H s (fun _ _ _ => False) e s') : False := by
  obtain ⟨_, _, _, _, _, _, _, _, _, _, _, _, z⟩ := h
  exact z
theorem txt_of {w : World} {K : PySem.W.Frag} {h : Heap} {mg : Str → Option Value} (X : K.In h) (G : h.Ns mainGlobals mg) (c : He.SaysX faL fnL [] [] exB w h K) : Txt K mg := by
  have hx : exB K = true := c.more
  unfold exB at hx
  simp only [Bool.and_eq_true] at hx
  obtain ⟨h_gcd, h_ZERO⟩ := hx
  exact { d_lowest := Def.of (c.t.d.def_ 0 (d := dd_lowest) rfl) (He.glo_ok X G (c.t.d.fact 0 (f := .glo "lowest") rfl)), d_plus := Def.of (c.t.d.def_ 1 (d := dd_plus) rfl) (He.glo_ok X G (c.t.d.fact 1 (f := .glo "plus") rfl)), d_minus := Def.of (c.t.d.def_ 2 (d := dd_minus) rfl) (He.glo_ok X G (c.t.d.fact 2 (f := .glo "minus") rfl)), d_times := Def.of (c.t.d.def_ 3 (d := dd_times) rfl) (He.glo_ok X G (c.t.d.fact 3 (f := .glo "times") rfl)), d_over := Def.of (c.t.d.def_ 4 (d := dd_over) rfl) (He.glo_ok X G (c.t.d.fact 4 (f := .glo "over") rfl)), d_is_less := Def.of (c.t.d.def_ 5 (d := dd_is_less) rfl) (He.glo_ok X G (c.t.d.fact 5 (f := .glo "is_less") rfl)), d_lesser := Def.of (c.t.d.def_ 6 (d := dd_lesser) rfl) (He.glo_ok X G (c.t.d.fact 6 (f := .glo "lesser") rfl)), d_total := Def.of (c.t.d.def_ 7 (d := dd_total) rfl) (He.glo_ok X G (c.t.d.fact 7 (f := .glo "total") rfl)), d_rate_for := Def.of (c.t.d.def_ 8 (d := dd_rate_for) rfl) (He.glo_ok X G (c.t.d.fact 8 (f := .glo "rate_for") rfl)), d_payments_at := Def.of (c.t.d.def_ 9 (d := dd_payments_at) rfl) (He.glo_ok X G (c.t.d.fact 9 (f := .glo "payments_at") rfl)), d__law_begun := Def.of (c.t.d.def_ 10 (d := dd__law_begun) rfl) (He.glo_ok X G (c.t.d.fact 10 (f := .glo "_law_begun") rfl)), d__law_mixed := Def.of (c.t.d.def_ 11 (d := dd__law_mixed) rfl) (He.glo_ok X G (c.t.d.fact 11 (f := .glo "_law_mixed") rfl)), d__law_draw := Def.of (c.t.d.def_ 12 (d := dd__law_draw) rfl) (He.glo_ok X G (c.t.d.fact 12 (f := .glo "_law_draw") rfl)), d__law_pick := Def.of (c.t.d.def_ 13 (d := dd__law_pick) rfl) (He.glo_ok X G (c.t.d.fact 13 (f := .glo "_law_pick") rfl)), d__law_plain := Def.of (c.t.d.def_ 14 (d := dd__law_plain) rfl) (He.glo_ok X G (c.t.d.fact 14 (f := .glo "_law_plain") rfl)), d__law_is := Def.of (c.t.d.def_ 15 (d := dd__law_is) rfl) (He.glo_ok X G (c.t.d.fact 15 (f := .glo "_law_is") rfl)), d__law_frac := Def.of (c.t.d.def_ 16 (d := dd__law_frac) rfl) (He.glo_ok X G (c.t.d.fact 16 (f := .glo "_law_frac") rfl)), d__law_add := Def.of (c.t.d.def_ 17 (d := dd__law_add) rfl) (He.glo_ok X G (c.t.d.fact 17 (f := .glo "_law_add") rfl)), d__law_sub := Def.of (c.t.d.def_ 18 (d := dd__law_sub) rfl) (He.glo_ok X G (c.t.d.fact 18 (f := .glo "_law_sub") rfl)), d__law_mul := Def.of (c.t.d.def_ 19 (d := dd__law_mul) rfl) (He.glo_ok X G (c.t.d.fact 19 (f := .glo "_law_mul") rfl)), d__law_below := Def.of (c.t.d.def_ 20 (d := dd__law_below) rfl) (He.glo_ok X G (c.t.d.fact 20 (f := .glo "_law_below") rfl)), d__law_sum := Def.of (c.t.d.def_ 21 (d := dd__law_sum) rfl) (He.glo_ok X G (c.t.d.fact 21 (f := .glo "_law_sum") rfl)), d__law_rate := Def.of (c.t.d.def_ 22 (d := dd__law_rate) rfl) (He.glo_ok X G (c.t.d.fact 22 (f := .glo "_law_rate") rfl)), d__law_paid := Def.of (c.t.d.def_ 23 (d := dd__law_paid) rfl) (He.glo_ok X G (c.t.d.fact 23 (f := .glo "_law_paid") rfl)), d_law := Def.of (c.t.d.def_ 24 (d := dd_law) rfl) (He.glo_ok X G (c.t.d.fact 24 (f := .glo "law") rfl)), b_tuple := He.free_ok X G (c.t.d.fact 25 (f := .free "tuple") rfl), b_isinstance := He.free_ok X G (c.t.d.fact 26 (f := .free "isinstance") rfl), b_dict := He.free_ok X G (c.t.d.fact 27 (f := .free "dict") rfl), b_max := He.free_ok X G (c.t.d.fact 28 (f := .free "max") rfl), b_range := He.free_ok X G (c.t.d.fact 29 (f := .free "range") rfl), b_sum := He.free_ok X G (c.t.d.fact 30 (f := .free "sum") rfl), b_int := He.free_ok X G (c.t.d.fact 31 (f := .free "int") rfl), b_list := He.free_ok X G (c.t.d.fact 32 (f := .free "list") rfl), b_abs := He.free_ok X G (c.t.d.fact 33 (f := .free "abs") rfl), b_len := He.free_ok X G (c.t.d.fact 34 (f := .free "len") rfl), b_enumerate := He.free_ok X G (c.t.d.fact 35 (f := .free "enumerate") rfl), b_str := He.free_ok X G (c.t.d.fact 36 (f := .free "str") rfl), b_repr := He.free_ok X G (c.t.d.fact 37 (f := .free "repr") rfl), b_min := He.free_ok X G (c.t.d.fact 38 (f := .free "min") rfl), b_zip := He.free_ok X G (c.t.d.fact 39 (f := .free "zip") rfl), c_ZERO := ⟨He.glo_ok X G (c.t.d.fact 40 (f := .glo "ZERO") rfl), fun H => Dp.tup (He.tupB_ok h_ZERO H) (.cons (.int 0) (.cons (.int 1) (.nil)))⟩, g_gcd := PySem.W.mg_of X G (He.eqO_ok h_gcd) }
end DL
open PySem PySem.W PySem.Calls PyProof.Rows
theorem PySem.Challenge.cw_pursebyvotes_k09_whole_rates_and_payment_holds : PySem.Challenge.rw_pursebyvotes_k09_whole_rates_and_payment.Holds := by
  w_on; o_law
  refine HandSHeadRun.head_imp (r := OpenLaw.row PySem.Challenge.rw_pursebyvotes_k09_whole_rates_and_payment) (q := view (OpenLaw.row PySem.Challenge.rw_pursebyvotes_k09_whole_rates_and_payment).prog [32]) (H := DL.hkL) (ob := DL.obL) (M := 3000) (loose := ["gcd", "__name__", "PurseError", "BadRatio", "ZERO", "lowest", "plus", "minus", "times", "over", "is_less", "lesser", "total", "rate_for", "payments_at", "_law_begun", "_law_mixed", "_law_draw", "_law_pick", "_law_plain", "_law_is", "_law_frac", "_law_add", "_law_sub", "_law_mul", "_law_below", "_law_sum", "_law_rate", "_law_paid"]) (d := HandSHeadRun.topDef (OpenLaw.row PySem.Challenge.rw_pursebyvotes_k09_whole_rates_and_payment).prog 32) (kwd := []) DL.obL_eq DL.runL
    (by kernel_rfl) (by kernel_rfl) (by kernel_rfl) (by rfl) (by first | assumption | decide +kernel) (by decide +kernel) ⟨rfl, rfl, rfl, rfl, rfl, by decide +kernel⟩ ?hw ?hc
  case hw => w_witness2
  case hc =>
    refine DL.walk_at' (l := PySem.Challenge.rw_pursebyvotes_k09_whole_rates_and_payment) (n := 63) (x := "script") rfl (by decide) (by kernel_rfl) ?F DL.no_cx
    intro w mg fa h Y G hmg0
    obtain ⟨K, KX, c⟩ := Y
    have hmg : mg ("law" : PySem.Str) = some (.ref fa) := by
      have e : (HandSHeadRun.topDef (OpenLaw.row PySem.Challenge.rw_pursebyvotes_k09_whole_rates_and_payment).prog 32).name = ("law" : PySem.Str) := by kernel_rfl
      rw [← e]
      exact hmg0
    have T := DL.txt_of KX G c
    have e := T.d_law.g.symm.trans hmg
    cases e
    have b := L2.FunD.bindsA (ps := ["script"]) T.d_law.F fun _ _ _ _ _ _ us hl => match us, hl with | [_], _ => rfl
    exact ⟨K, DL.fdOf K "law", DL.LawSp K 63, KX, fun s v => b s [v] rfl, fun H a ns hl hS => ⟨a, ns, rfl, hS, hl, fun _ => rfl⟩, fun base _ _ => DL.ok_law T⟩
