import PyProof.Rows.All
import Wide.All
import OpenK.AllK
import Wide.FinOn
import HandS.ForMost
import HandS.Exc
import HandS.TryOnly
import HandS.ExcOwn
import HandS.IsInst
import HandS.TupAny
import HandS.TupMul
import HandS.FStr
import HandS.Property
import HandS.ClsMeth
import HandS.Star
import HandS.Deep
import HandS.Wide
import HandS.Zip
import HandS.WordsExc
import HandS.Text
import HandS.TupSets
import PySem.Challenge.RW_postedbag_k03_whole_greatest_and_least
set_option Elab.async false
set_option linter.all false
set_option autoImplicit false
set_option maxRecDepth 100000
set_option maxHeartbeats 4000000
/-! DN1: data, store, worlds, the readings of expressions, tests, statements. -/
namespace DN
open PySem PySem.Spec PyProof.Rows L2

/-- data without the heap; mut n: the n-th cell of the store -/
inductive D where
  | non | bl (b : Bool) | int (i : Int) | str (x : Str)
  | tup (xs : List D) | lst (xs : List D) | dct (kvs : List (D × D))
  | mut (n : Nat) | ins (c : Str) (fs : List (Str × D)) | scr (ns : List Int)

inductive Cell where
  | lst (xs : List D)
  | dct (kvs : List (D × D))
abbrev Store := List Cell

inductive Res (α : Type) where
  | ok (a : α) (S : Store)
  | exc (c : Str) (fs : List (Str × D)) (S : Store)
  | bad
abbrev M (α : Type) := Store → Res α
def M.pure {α : Type} (a : α) : M α := fun S => .ok a S
def M.bind {α β : Type} (m : M α) (k : α → M β) : M β := fun S =>
  match m S with
  | .ok a S' => k a S'
  | .exc c fs S' => .exc c fs S'
  | .bad => .bad
def M.bad {α : Type} : M α := fun _ => .bad
instance : Monad M where
  pure := M.pure
  bind := M.bind

/-- a slot: unknown, data, a list of the frame's own -/
inductive Sl where
  | un | val (d : D) | own (xs : List D)
abbrev Env := List Sl

/-- what stays fixed: the written part, the classes by name -/
structure Gx where
  K : PySem.W.Frag
  cl : Str → Option Addr

/-- a world: where the cells stand, what is busy (may change) -/
structure Wd where
  phi : Nat → Option Addr
  B : Addr → Prop

/-- a list, a tuple that is read and does not change -/
def LstAt (G : Gx) (W : Wd) (H : Hp) (a : Addr) (xs : List V) : Prop :=
  (Rd H a (.lst xs) ∧ ¬ W.B a) ∨
    ∃ (o : Obj) (its : Array Value) (n : Nat), G.K.lookup a = some o ∧ o.cls = .type "list" ∧ o.dict = none ∧ o.data = .seq its n ∧ its.size ≤ sizeLine ∧ Vals xs its.toList
def TupAt (G : Gx) (W : Wd) (H : Hp) (a : Addr) (xs : List V) : Prop :=
  (Rd H a (.tup xs) ∧ ¬ W.B a) ∨
    ∃ (o : Obj) (its : Array Value) (n : Nat), G.K.lookup a = some o ∧ o.cls = .type "tuple" ∧ o.data = .seq its n ∧ its.size ≤ sizeLine ∧ Vals xs its.toList
theorem LstAt.sq {G : Gx} {W : Wd} {H : Hp} {a : Addr} {xs : List V} (h : LstAt G W H a xs) : SqL G.K H a xs := h.imp And.left id
theorem TupAt.sq {G : Gx} {W : Wd} {H : Hp} {a : Addr} {xs : List V} (h : TupAt G W H a xs) : SqT G.K H a xs := h.imp And.left id

mutual
inductive Rp (G : Gx) (W : Wd) (H : Hp) : V → D → Prop
  | non : Rp G W H .non .non
  | bl (b : Bool) : Rp G W H (.bl b) (.bl b)
  | int (i : Int) : Rp G W H (.int i) (.int i)
  | str (x : Str) : Rp G W H (.str x) (.str x)
  | tup {a : Addr} {vs : List V} {ds : List D} : TupAt G W H a vs → RpA G W H vs ds → Rp G W H (.ref a) (.tup ds)
  | lst {a : Addr} {vs : List V} {ds : List D} : H a = some (.lst vs) → ¬ W.B a → RpA G W H vs ds → Rp G W H (.ref a) (.lst ds)
  | scr {a : Addr} {ns : List Int} : LstAt G W H a (ns.map V.int) → Rp G W H (.ref a) (.scr ns)
  | dct {a : Addr} {kvs : List (Key × V)} {ds : List (D × D)} : H a = some (.dK kvs) → ¬ W.B a → RpK G W H kvs ds → Rp G W H (.ref a) (.dct ds)
  | mut {n : Nat} {a : Addr} : W.phi n = some a → Rp G W H (.ref a) (.mut n)
  | ins {c : Str} {a C dx : Addr} {fs : List (Str × V)} {ds : List (Str × D)} : G.cl c = some C → H a = some (.ins C dx fs) → ¬ W.B a → RpF G W H fs ds → Rp G W H (.ref a) (.ins c ds)
inductive RpA (G : Gx) (W : Wd) (H : Hp) : List V → List D → Prop
  | nil : RpA G W H [] []
  | cons {v : V} {vs : List V} {d : D} {ds : List D} : Rp G W H v d → RpA G W H vs ds → RpA G W H (v :: vs) (d :: ds)
inductive RpK (G : Gx) (W : Wd) (H : Hp) : List (Key × V) → List (D × D) → Prop
  | nil : RpK G W H [] []
  | consI {i : Int} {v : V} {vs : List (Key × V)} {d : D} {ds : List (D × D)} : Rp G W H v d → RpK G W H vs ds → RpK G W H ((.inl i, v) :: vs) ((.int i, d) :: ds)
  | consS {x : Str} {v : V} {vs : List (Key × V)} {d : D} {ds : List (D × D)} : Rp G W H v d → RpK G W H vs ds → RpK G W H ((.inr x, v) :: vs) ((.str x, d) :: ds)
inductive RpF (G : Gx) (W : Wd) (H : Hp) : List (Str × V) → List (Str × D) → Prop
  | nil : RpF G W H [] []
  | cons {f : Str} {v : V} {vs : List (Str × V)} {d : D} {ds : List (Str × D)} : Rp G W H v d → RpF G W H vs ds → RpF G W H ((f, v) :: vs) ((f, d) :: ds)
end

/-- worlds in a row, weakly (behind statements): what is not busy stays -/
structure Lw (W : Wd) (H : Hp) (W' : Wd) (H' : Hp) : Prop where
  ph : ∀ n a, W.phi n = some a → W'.phi n = some a
  Bn : ∀ a, W'.B a → W.B a ∨ H a = none
  kp : ∀ b o, H b = some o → ¬ W.B b → H' b = some o
/-- .. behind expressions and calls: only the store's cells change -/
structure Le (W : Wd) (H : Hp) (W' : Wd) (H' : Hp) : Prop where
  ph : ∀ n a, W.phi n = some a → W'.phi n = some a
  ps : ∀ n a, W'.phi n = some a → W.phi n = some a ∨ H a = none
  Bm : ∀ a, W.B a → W'.B a
  Bn : ∀ a, W'.B a → W.B a ∨ H a = none
  kp : ∀ b o, H b = some o → (∃ n, W.phi n = some b) ∨ H' b = some o
structure WOk (W : Wd) (H : Hp) : Prop where
  tr : ∀ a, W.B a → ∃ o, H a = some o
  rg : ∀ n a, W.phi n = some a → W.B a
  ij : ∀ n m a, W.phi n = some a → W.phi m = some a → n = m

section
variable {G : Gx} {W W' W1 W2 : Wd} {H H' H1 H2 : Hp}
theorem Lw.refl : Lw W H W H := ⟨fun _ _ h => h, fun _ h => .inl h, fun _ _ h _ => h⟩
theorem Le.refl : Le W H W H := ⟨fun _ _ h => h, fun _ _ h => .inl h, fun _ h => h, fun _ h => .inl h, fun _ _ h => .inr h⟩
theorem Lw.trans (a : Lw W H W1 H1) (b : Lw W1 H1 W2 H2) : Lw W H W2 H2 := by
  refine ⟨fun n x h => b.ph n x (a.ph n x h), fun x h => ?_, fun c o h nb => ?_⟩
  · rcases b.Bn x h with h1 | h1
    · exact a.Bn x h1
    · cases q : H x with
      | none => exact .inr rfl
      | some o =>
        by_cases nb : W.B x
        · exact .inl nb
        · have := a.kp x o q nb
          rw [h1] at this; cases this
  · have h1 := a.kp c o h nb
    refine b.kp c o h1 fun q => ?_
    rcases a.Bn c q with z | z
    · exact nb z
    · rw [h] at z; cases z
theorem Le.trans (a : Le W H W1 H1) (b : Le W1 H1 W2 H2) (w : WOk W H) (w2 : WOk W2 H2) : Le W H W2 H2 := by
  refine ⟨fun n x h => b.ph n x (a.ph n x h), fun n x h => ?_, fun x h => b.Bm x (a.Bm x h), fun x h => ?_, fun c o h => ?_⟩
  · rcases b.ps n x h with h1 | h1
    · exact a.ps n x h1
    · cases q : H x with
      | none => exact .inr rfl
      | some o =>
        rcases a.kp x o q with ⟨m, z⟩ | z
        · have e := w2.ij n m x h (b.ph m x (a.ph m x z))
          subst e; exact .inl z
        · rw [h1] at z; cases z
  · rcases b.Bn x h with h1 | h1
    · exact a.Bn x h1
    · cases q : H x with
      | none => exact .inr rfl
      | some o =>
        rcases a.kp x o q with ⟨m, z⟩ | z
        · exact .inl (w.rg m x z)
        · rw [h1] at z; cases z
  · rcases a.kp c o h with z | z
    · exact .inl z
    · rcases b.kp c o z with ⟨n, y⟩ | y
      · rcases a.ps n c y with q | q
        · exact .inl ⟨n, q⟩
        · rw [h] at q; cases q
      · exact .inr y
theorem Le.lw (a : Le W H W1 H1) (w : WOk W H) : Lw W H W1 H1 := by
  refine ⟨a.ph, a.Bn, fun c o h nb => ?_⟩
  rcases a.kp c o h with ⟨n, z⟩ | z
  · exact absurd (w.rg n c z) nb
  · exact z
/-- new objects alone -/
theorem Le.same (s : Same H H') : Le W H W H' := ⟨fun _ _ h => h, fun _ _ h => .inl h, fun _ h => h, fun _ h => .inl h, fun b o h => .inr (s b o h)⟩
theorem WOk.same (w : WOk W H) (s : Same H H') : WOk W H' := ⟨fun a h => let ⟨o, e⟩ := w.tr a h; ⟨o, s a o e⟩, w.rg, w.ij⟩
theorem Same.new {p : Addr} {o : HO} (h : H p = none) : Same H (upd H p o) := fun b u e => by
  rw [upd_ne (ne_of_none e h)]; exact e
theorem LstAt.mono {a : Addr} {xs : List V} (l : Lw W H W' H') (h : LstAt G W H a xs) : LstAt G W' H' a xs := by
  rcases h with ⟨h, nb⟩ | h
  · left
    rcases h with h | ⟨o, h⟩
    · exact ⟨.inl (l.kp _ _ h nb), fun q => (l.Bn _ q).elim nb fun z => by rw [h] at z; cases z⟩
    · exact ⟨.inr ⟨o, l.kp _ _ h nb⟩, fun q => (l.Bn _ q).elim nb fun z => by rw [h] at z; cases z⟩
  · exact .inr h
theorem TupAt.mono {a : Addr} {xs : List V} (l : Lw W H W' H') (h : TupAt G W H a xs) : TupAt G W' H' a xs := by
  rcases h with ⟨h, nb⟩ | h
  · left
    rcases h with h | ⟨o, h⟩
    · exact ⟨.inl (l.kp _ _ h nb), fun q => (l.Bn _ q).elim nb fun z => by rw [h] at z; cases z⟩
    · exact ⟨.inr ⟨o, l.kp _ _ h nb⟩, fun q => (l.Bn _ q).elim nb fun z => by rw [h] at z; cases z⟩
  · exact .inr h
mutual
theorem Rp.mono (l : Lw W H W' H') : ∀ {v : V} {d : D}, Rp G W H v d → Rp G W' H' v d
  | _, _, .non => .non
  | _, _, .bl b => .bl b
  | _, _, .int i => .int i
  | _, _, .str x => .str x
  | _, _, .tup h r => .tup (h.mono l) (RpA.mono l r)
  | _, _, .lst h nb r => .lst (l.kp _ _ h nb) (fun q => (l.Bn _ q).elim nb fun z => by rw [h] at z; cases z) (RpA.mono l r)
  | _, _, .scr h => .scr (h.mono l)
  | _, _, .dct h nb r => .dct (l.kp _ _ h nb) (fun q => (l.Bn _ q).elim nb fun z => by rw [h] at z; cases z) (RpK.mono l r)
  | _, _, .mut h => .mut (l.ph _ _ h)
  | _, _, .ins c h nb r => .ins c (l.kp _ _ h nb) (fun q => (l.Bn _ q).elim nb fun z => by rw [h] at z; cases z) (RpF.mono l r)
theorem RpA.mono (l : Lw W H W' H') : ∀ {vs : List V} {ds : List D}, RpA G W H vs ds → RpA G W' H' vs ds
  | _, _, .nil => .nil
  | _, _, .cons r t => .cons (Rp.mono l r) (RpA.mono l t)
theorem RpK.mono (l : Lw W H W' H') : ∀ {vs : List (Key × V)} {ds : List (D × D)}, RpK G W H vs ds → RpK G W' H' vs ds
  | _, _, .nil => .nil
  | _, _, .consI r t => .consI (Rp.mono l r) (RpK.mono l t)
  | _, _, .consS r t => .consS (Rp.mono l r) (RpK.mono l t)
theorem RpF.mono (l : Lw W H W' H') : ∀ {vs : List (Str × V)} {ds : List (Str × D)}, RpF G W H vs ds → RpF G W' H' vs ds
  | _, _, .nil => .nil
  | _, _, .cons r t => .cons (Rp.mono l r) (RpF.mono l t)
end
theorem RpA.length : ∀ {vs : List V} {ds : List D}, RpA G W H vs ds → vs.length = ds.length
  | _, _, .nil => rfl
  | _, _, .cons _ t => by rw [List.length_cons, List.length_cons, RpA.length t]
theorem RpA.get : ∀ {vs : List V} {ds : List D} {i : Nat} {d : D}, RpA G W H vs ds → ds[i]? = some d → ∃ v, vs[i]? = some v ∧ Rp G W H v d
  | _, _, _, _, .nil, e => by simp at e
  | _, _, 0, _, .cons r _, e => by simp at e; subst e; exact ⟨_, rfl, r⟩
  | _, _, i + 1, d, .cons _ t, e => by
    obtain ⟨v, h1, h2⟩ := RpA.get (i := i) (d := d) t (by simpa using e)
    exact ⟨v, by simpa using h1, h2⟩
theorem RpA.app : ∀ {vs ws : List V} {ds es : List D}, RpA G W H vs ds → RpA G W H ws es → RpA G W H (vs ++ ws) (ds ++ es)
  | _, _, _, _, .nil, s => s
  | _, _, _, _, .cons r t, s => .cons r (RpA.app t s)
theorem RpA.take : ∀ {vs : List V} {ds : List D} (n : Nat), RpA G W H vs ds → RpA G W H (vs.take n) (ds.take n)
  | _, _, 0, _ => .nil
  | _, _, _ + 1, .nil => .nil
  | _, _, n + 1, .cons r t => .cons r (RpA.take n t)
theorem RpA.drop : ∀ {vs : List V} {ds : List D} (n : Nat), RpA G W H vs ds → RpA G W H (vs.drop n) (ds.drop n)
  | _, _, 0, r => r
  | _, _, _ + 1, .nil => .nil
  | _, _, n + 1, .cons _ t => RpA.drop n t
theorem RpA.set {v : V} {d : D} (r : Rp G W H v d) : ∀ {vs : List V} {ds : List D} (n : Nat), RpA G W H vs ds → RpA G W H (vs.set n v) (ds.set n d)
  | _, _, _, .nil => .nil
  | _, _, 0, .cons _ t => .cons r t
  | _, _, n + 1, .cons q t => .cons q (RpA.set r n t)
theorem RpA.rev {vs : List V} {ds : List D} (h : RpA G W H vs ds) : RpA G W H vs.reverse ds.reverse := by
  induction vs generalizing ds with
  | nil => cases h; exact .nil
  | cons v vs ih =>
    cases h with
    | cons r t =>
      rw [List.reverse_cons, List.reverse_cons]
      exact (ih t).app (.cons r .nil)
end

/-- a cell as it stands -/
def CellOk (G : Gx) (W : Wd) (H : Hp) (a : Addr) : Cell → Prop
  | .lst ds => ∃ vs, H a = some (.lst vs) ∧ RpA G W H vs ds
  | .dct ds => ∃ kvs, H a = some (.dK kvs) ∧ RpK G W H kvs ds
structure StOk (G : Gx) (W : Wd) (H : Hp) (S : Store) : Prop where
  at_ : ∀ (n : Nat) (c : Cell), S[n]? = some c → ∃ a, W.phi n = some a ∧ CellOk G W H a c
  top : ∀ n, S.length ≤ n → W.phi n = none
theorem CellOk.same {G : Gx} {W W' : Wd} {H H' : Hp} {a : Addr} {c : Cell} (l : Lw W H W' H') (s : ∀ o, H a = some o → H' a = some o) (h : CellOk G W H a c) : CellOk G W' H' a c := by
  cases c with
  | lst ds => obtain ⟨vs, h, r⟩ := h; exact ⟨vs, s _ h, r.mono l⟩
  | dct ds => obtain ⟨vs, h, r⟩ := h; exact ⟨vs, s _ h, r.mono l⟩
theorem Lw.same {W : Wd} {H H' : Hp} (s : Same H H') : Lw W H W H' := ⟨fun _ _ h => h, fun _ h => .inl h, fun b o h _ => s b o h⟩
theorem StOk.same {G : Gx} {W : Wd} {H H' : Hp} {S : Store} (h : StOk G W H S) (s : Same H H') : StOk G W H' S :=
  ⟨fun n c e => let ⟨a, e1, e2⟩ := h.at_ n c e; ⟨a, e1, e2.same (Lw.same s) fun o q => s a o q⟩, h.top⟩

/-- the environment of a frame that was entered in the world W0, H0 -/
structure Ev (G : Gx) (W0 : Wd) (H0 : Hp) (W : Wd) (H : Hp) (S : Store) (σ : L2.St) (ρ : Env) (own : Nat → Option Addr) : Prop where
  w0 : WOk W0 H0
  wk : WOk W H
  le : Le W0 H0 W H
  st : StOk G W H S
  len : σ.length = ρ.length
  sl : ∀ (i : Nat) (d : D), ρ[i]? = some (.val d) → ∃ v, σ[i]? = some (some v) ∧ Rp G W H v d
  so : ∀ (i : Nat) (ds : List D), ρ[i]? = some (.own ds) → ∃ a vs, own i = some a ∧ σ[i]? = some (some (.ref a)) ∧ H a = some (.lst vs) ∧ RpA G W H vs ds
  oB : ∀ i a, own i = some a → W.B a ∧ H0 a = none ∧ ∀ n, W.phi n ≠ some a
  oi : ∀ i j a, own i = some a → own j = some a → i = j

section
variable {G : Gx} {W0 W W' : Wd} {H0 H H' : Hp} {S S' : Store} {σ : L2.St} {ρ : Env} {own : Nat → Option Addr}
/-- behind an expression -/
theorem Ev.mono (e : Ev G W0 H0 W H S σ ρ own) (l : Le W H W' H') (w : WOk W' H') (s : StOk G W' H' S') : Ev G W0 H0 W' H' S' σ ρ own := by
  have lw := l.lw e.wk
  refine ⟨e.w0, w, e.le.trans l e.w0 w, s, e.len, fun i d h => ?_, fun i ds h => ?_, fun i a h => ?_, e.oi⟩
  · obtain ⟨v, h1, h2⟩ := e.sl i d h
    exact ⟨v, h1, h2.mono lw⟩
  · obtain ⟨a, vs, h1, h2, h3, h4⟩ := e.so i ds h
    refine ⟨a, vs, h1, h2, ?_, h4.mono lw⟩
    rcases l.kp _ _ h3 with ⟨n, z⟩ | z
    · exact absurd z ((e.oB i a h1).2.2 n)
    · exact z
  · obtain ⟨h1, h2, h3⟩ := e.oB i a h
    refine ⟨l.Bm _ h1, h2, fun n q => ?_⟩
    rcases l.ps n a q with z | z
    · exact h3 n z
    · obtain ⟨o, y⟩ := e.wk.tr a h1
      rw [y] at z; cases z
theorem Ev.same (e : Ev G W0 H0 W H S σ ρ own) (s : Same H H') : Ev G W0 H0 W H' S σ ρ own := e.mono (Le.same s) (e.wk.same s) (e.st.same s)
end

/-- an exception: an own class by its name, its fields -/
def ExOk (G : Gx) (W : Wd) (H : Hp) (c : Str) (fs : List (Str × D)) (cls : Value) (dd : Option Addr) : Prop :=
  ∃ C, G.cl c = some C ∧ cls = .ref C ∧ ((fs = [] ∧ dd = none) ∨ ∃ dx vs, dd = some dx ∧ H dx = some (.xd vs) ∧ ¬ W.B dx ∧ RpF G W H vs fs)

/-- what is wanted of a result -/
def Po {α : Type} (G : Gx) (E : WX) (σ : L2.St) (W : Wd) (H : Hp) (r : Res α) (R : α → Store → Wd → Hp → Prop) : Prop :=
  match r with
  | .ok a S' => ∀ W' H', Le W H W' H' → WOk W' H' → StOk G W' H' S' → R a S' W' H'
  | .exc c fs S' => ∀ W' H' cls dd, Le W H W' H' → WOk W' H' → StOk G W' H' S' → ExOk G W' H' c fs cls dd → E cls dd σ H'
  | .bad => False
section
variable {G : Gx} {E : WX} {σ : L2.St} {W W1 : Wd} {H H1 : Hp} {α β : Type}
theorem Po.step {r : Res α} {R : α → Store → Wd → Hp → Prop} (w : WOk W H) (l : Le W H W1 H1) (h : Po G E σ W H r R) : Po G E σ W1 H1 r R := by
  cases r with
  | ok a S' => exact fun W' H' l' w' s' => h W' H' (l.trans l' w w') w' s'
  | exc c fs S' => exact fun W' H' cls dd l' w' s' x => h W' H' cls dd (l.trans l' w w') w' s' x
  | bad => exact h
theorem Po.bind {m : M α} {k : α → M β} {S : Store} {R : β → Store → Wd → Hp → Prop} (w : WOk W H) (h : Po G E σ W H ((m >>= k) S) R) :
    Po G E σ W H (m S) (fun a S1 W1 H1 => Po G E σ W1 H1 (k a S1) R) := by
  have h : Po G E σ W H (M.bind m k S) R := h
  unfold M.bind at h
  cases q : m S with
  | ok a S' =>
    rw [q] at h
    exact fun W' H' l' w' s' => Po.step w l' h
  | exc c fs S' => rw [q] at h; exact h
  | bad => rw [q] at h; exact h
theorem Po.imp {r : Res α} {R R' : α → Store → Wd → Hp → Prop} (h : Po G E σ W H r R) (i : ∀ a S' W' H', Le W H W' H' → WOk W' H' → StOk G W' H' S' → R a S' W' H' → R' a S' W' H') : Po G E σ W H r R' := by
  cases r with
  | ok a S' => exact fun W' H' l' w' s' => i a S' W' H' l' w' s' (h W' H' l' w' s')
  | exc c fs S' => exact h
  | bad => exact h
/-- at once -/
theorem Po.now {a : α} {S : Store} {R : α → Store → Wd → Hp → Prop} (w : WOk W H) (s : StOk G W H S) (h : Po G E σ W H (.ok a S) R) : R a S W H := h W H Le.refl w s
end

/-- a value is wanted -/
abbrev RV (G : Gx) (Q : VK) : D → Store → Wd → Hp → Prop := fun d _ W' H' => ∀ v, Rp G W' H' v d → Q v H'
def tE (G : Gx) (E : WX) (f : Env → M D) : TE := fun σ H Q => ∃ W0 H0 W S ρ own, Ev G W0 H0 W H S σ ρ own ∧ Po G E σ W H (f ρ S) (RV G Q)
def tB_ (G : Gx) (E : WX) (f : Env → M Bool) : TT := fun σ H Q => ∃ W0 H0 W S ρ own, Ev G W0 H0 W H S σ ρ own ∧ Po G E σ W H (f ρ S) (fun b _ _ H' => Q b H')
def tA (G : Gx) (E : WX) (f : Env → M (List D)) : TA := fun σ H Q => ∃ W0 H0 W S ρ own, Ev G W0 H0 W H S σ ρ own ∧ Po G E σ W H (f ρ S) (fun ds _ W' H' => ∀ vs, RpA G W' H' vs ds → Q vs H')

/-- the judgements: e reads as f -/
abbrev Cls_ := Str → Option Addr
abbrev DE (X : Cx) (cl : Cls_) (E : WX) (e : Expr) (f : Env → M D) : Prop := PE X e (tE ⟨X.K, cl⟩ E f)
abbrev DT (X : Cx) (cl : Cls_) (E : WX) (e : Expr) (f : Env → M Bool) : Prop := PT X e (tB_ ⟨X.K, cl⟩ E f)
abbrev DA (X : Cx) (cl : Cls_) (E : WX) (es : List Expr) (f : Env → M (List D)) : Prop := PA X es (tA ⟨X.K, cl⟩ E f)

theorem pe_imp {X : Cx} {e : Expr} {t t' : TE} (h : PE X e t) (i : ∀ σ H Q, t' σ H Q → t σ H Q) : PE X e t' := ⟨fun pins s σ H Q I q => h.run pins s σ H Q I (i σ H Q q)⟩
theorem pt_imp {X : Cx} {e : Expr} {t t' : TT} (h : PT X e t) (i : ∀ σ H Q, t' σ H Q → t σ H Q) : PT X e t' := ⟨fun pins s σ H Q I q => h.run pins s σ H Q I (i σ H Q q)⟩
theorem pa_imp {X : Cx} {e : List Expr} {t t' : TA} (h : PA X e t) (i : ∀ σ H Q, t' σ H Q → t σ H Q) : PA X e t' := ⟨fun pos pins s σ H Q I q => h.run pos pins s σ H Q I (i σ H Q q)⟩
theorem ps_imp {X : Cx} {e : Stmt} {t t' : TS} (h : PS X e t) (i : ∀ Dn σ H, t' Dn σ H → t Dn σ H) : PS X e t' := ⟨fun pins s σ H Dn I q => h.run pins s σ H Dn I (i Dn σ H q)⟩
theorem pss_imp {X : Cx} {e : List Stmt} {t t' : TS} (h : PSs X e t) (i : ∀ Dn σ H, t' Dn σ H → t Dn σ H) : PSs X e t' := ⟨fun pins s σ H Dn I q => h.run pins s σ H Dn I (i Dn σ H q)⟩

/-! ### statements -/
inductive Fl where
  | nx | rt (d : D) | bk | ct
inductive RS where
  | go (f : Fl) (ρ : Env) (S : Store)
  | exc (c : Str) (fs : List (Str × D)) (ρ : Env) (S : Store)
  | bad
abbrev Sm := Env → Store → RS
def wantF (G : Gx) (Dn : Ends) (W : Wd) (σ : L2.St) (H : Hp) : Fl → Prop
  | .nx => Dn.nx σ H
  | .rt d => ∀ v, Rp G W H v d → Dn.rt v H
  | .bk => Dn.bk σ H
  | .ct => Dn.ct σ H
def PoS (G : Gx) (E : WX) (W0 : Wd) (H0 : Hp) (W : Wd) (H : Hp) (r : RS) (R : Fl → Env → Store → Wd → Hp → L2.St → (Nat → Option Addr) → Prop) : Prop :=
  match r with
  | .go fl ρ' S' => ∀ W' H' σ' own', Lw W H W' H' → Ev G W0 H0 W' H' S' σ' ρ' own' → R fl ρ' S' W' H' σ' own'
  | .exc c fs ρ' S' => ∀ W' H' σ' own' cls dd, Lw W H W' H' → Ev G W0 H0 W' H' S' σ' ρ' own' → ExOk G W' H' c fs cls dd → E cls dd σ' H'
  | .bad => False
def tS (G : Gx) (E : WX) (f : Sm) : TS := fun Dn σ H => ∃ W0 H0 W S ρ own, Ev G W0 H0 W H S σ ρ own ∧ PoS G E W0 H0 W H (f ρ S) (fun fl _ _ W' H' σ' _ => wantF G Dn W' σ' H' fl)
abbrev DS (X : Cx) (cl : Cls_) (E : WX) (st : Stmt) (f : Sm) : Prop := PS X st (tS ⟨X.K, cl⟩ E f)
abbrev DSs (X : Cx) (cl : Cls_) (E : WX) (st : List Stmt) (f : Sm) : Prop := PSs X st (tS ⟨X.K, cl⟩ E f)
end DN
/-! DN2: expressions: names, constants, operators, comparisons, tests. -/
namespace DN
open PySem PySem.Spec PyProof.Rows L2

theorem bind_run {α β : Type} (m : M α) (k : α → M β) (S : Store) : (m >>= k) S = match m S with
  | .ok a S' => k a S'
  | .exc c fs S' => .exc c fs S'
  | .bad => .bad := rfl

/-! ### names, constants -/
def cVar (i : Nat) : Env → M D := fun ρ S => match ρ[i]? with
  | some (.val d) => .ok d S
  | _ => .bad
def cC (d : D) : Env → M D := fun _ => M.pure d
section
variable {X : Cx} {cl : Cls_} {E : WX}
theorem de_var' {i : Nat} {e : Expr} (h : PE X e (tVar i)) : DE X cl E e (cVar i) := by
  refine pe_imp h fun σ H Q ⟨W0, H0, W, S, ρ, own, ev, h⟩ => ?_
  unfold cVar at h
  cases q : ρ[i]? with
  | none => rw [q] at h; exact h.elim
  | some s =>
    rw [q] at h
    cases s with
    | un => exact h.elim
    | own xs => exact h.elim
    | val d =>
      obtain ⟨v, h1, h2⟩ := ev.sl i d q
      exact ⟨v, h1, Po.now ev.wk ev.st h v h2⟩
theorem de_var (i : Nat) {x : Str} {pos : Pos} (hN : X.N[i]? = some x := by rfl) (hv : Vis X.env.scope x := by first | exact Or.inl rfl | exact Or.inr (Or.inl rfl) | exact Or.inr (Or.inr rfl)) (hd : (x == ("__debug__" : Str)) = false := by decide)
    (hcd : (x == ("__classdict__" : Str)) = false := by decide) : DE X cl E (.Name x pos) (cVar i) := de_var' (pe_var hN hv hd hcd)
theorem de_c {e : Expr} {v : V} {d : D} (h : PE X e (tC v)) (r : ∀ W H, Rp ⟨X.K, cl⟩ W H v d) : DE X cl E e (cC d) := by
  refine pe_imp h fun σ H Q ⟨W0, H0, W, S, ρ, own, ev, h⟩ => ?_
  exact Po.now ev.wk ev.st h v (r _ _)
theorem de_int {i j pos} : DE X cl E (.Constant (.int i) j pos) (cC (.int i)) := de_c pe_int fun _ _ => .int i
theorem de_bl {b j pos} : DE X cl E (.Constant (.bool b) j pos) (cC (.bl b)) := de_c pe_bl fun _ _ => .bl b
theorem de_non {j pos} : DE X cl E (.Constant .none j pos) (cC .non) := de_c pe_non fun _ _ => .non
theorem de_str {x j pos} : DE X cl E (.Constant (.str x) j pos) (cC (.str x)) := de_c pe_str fun _ _ => .str x
/-- a module's constant that is an int or a text -/
theorem de_gint {x : Str} {i : Int} {t : Tok} {pos : Pos} (hm : X.mg x = some (.int i t)) (hg : Gl X x := by rfl) (hd : (x == ("__debug__" : Str)) = false := by decide) : DE X cl E (.Name x pos) (cC (.int i)) :=
  de_c (pe_glob hg hm (v := .int i) ⟨_, rfl⟩ hd) fun _ _ => .int i
theorem de_gstr {x : Str} {i : Str} {t : Tok} {pos : Pos} (hm : X.mg x = some (.str i t)) (hg : Gl X x := by rfl) (hd : (x == ("__debug__" : Str)) = false := by decide) : DE X cl E (.Name x pos) (cC (.str i)) :=
  de_c (pe_glob hg hm (v := .str i) ⟨_, rfl⟩ hd) fun _ _ => .str i
end

/-! ### two values, one value -/
def c2 (g : D → D → M D) (fa fb : Env → M D) : Env → M D := fun ρ => do let x ← fa ρ; let y ← fb ρ; g x y
def c1 (g : D → M D) (fa : Env → M D) : Env → M D := fun ρ => do let x ← fa ρ; g x
/-- the operation by data is the one by values -/
def OpD (K : PySem.W.Frag) (cl : Cls_) (r : R2) (g : D → D → M D) : Prop :=
  ∀ (E : WX) (σ : L2.St) (W : Wd) (H : Hp) (S : Store) (x y : V) (dx dy : D) (Q : VK), WOk W H → StOk ⟨K, cl⟩ W H S → Rp ⟨K, cl⟩ W H x dx → Rp ⟨K, cl⟩ W H y dy → Po ⟨K, cl⟩ E σ W H (g dx dy S) (RV ⟨K, cl⟩ Q) → r x y H Q
def UnD (K : PySem.W.Frag) (cl : Cls_) (r : V → Hp → VK → Prop) (g : D → M D) : Prop :=
  ∀ (E : WX) (σ : L2.St) (W : Wd) (H : Hp) (S : Store) (x : V) (dx : D) (Q : VK), WOk W H → StOk ⟨K, cl⟩ W H S → Rp ⟨K, cl⟩ W H x dx → Po ⟨K, cl⟩ E σ W H (g dx S) (RV ⟨K, cl⟩ Q) → r x H Q
/-- the answer is a scalar: nothing new stands -/
theorem Po.val {G : Gx} {E : WX} {σ : L2.St} {W : Wd} {H : Hp} {S : Store} {d : D} {v : V} {Q : VK} (w : WOk W H) (s : StOk G W H S) (h : Po G E σ W H (.ok d S) (RV G Q)) (r : Rp G W H v d) : Q v H := Po.now w s h v r
/-- a new object -/
theorem Po.new {G : Gx} {E : WX} {σ : L2.St} {W : Wd} {H : Hp} {S : Store} {d : D} {p : Addr} {o : HO} {Q : VK} (w : WOk W H) (s : StOk G W H S) (h : Po G E σ W H (.ok d S) (RV G Q)) (hp : H p = none)
    (r : Rp G W (upd H p o) (.ref p) d) : Q (.ref p) (upd H p o) :=
  h W _ (Le.same (Same.new hp)) (w.same (Same.new hp)) (s.same (Same.new hp)) _ r
section
variable {G : Gx} {W : Wd} {H : Hp} {p : Addr}
theorem WOk.free (w : WOk W H) (hp : H p = none) : ¬ W.B p := fun q => by
  obtain ⟨o, e⟩ := w.tr p q
  rw [hp] at e; cases e
theorem Rp.newTup {vs : List V} {ds : List D} (w : WOk W H) (hp : H p = none) (r : RpA G W H vs ds) : Rp G W (upd H p (.tup vs)) (.ref p) (.tup ds) :=
  .tup (.inl ⟨.inl upd_same, w.free hp⟩) (r.mono (Lw.same (Same.new hp)))
theorem Rp.newLst {vs : List V} {ds : List D} (w : WOk W H) (hp : H p = none) (r : RpA G W H vs ds) : Rp G W (upd H p (.lst vs)) (.ref p) (.lst ds) :=
  .lst upd_same (w.free hp) (r.mono (Lw.same (Same.new hp)))
end
section
variable {X : Cx} {cl : Cls_} {E : WX} {a b c : Expr} {fa fb fc : Env → M D} {pos : Pos}
/-- the first value, then what is made of it -/
theorem tE_bind {G : Gx} {E : WX} {fa : Env → M D} {k : Env → D → M D} {σ : L2.St} {H : Hp} {Q : VK} {R : V → Hp → Prop} (h : tE G E (fun ρ => fa ρ >>= k ρ) σ H Q)
    (hk : ∀ W0 H0 W1 H1 S1 ρ own v d, Ev G W0 H0 W1 H1 S1 σ ρ own → Rp G W1 H1 v d → Po G E σ W1 H1 (k ρ d S1) (RV G Q) → R v H1) : tE G E fa σ H R := by
  obtain ⟨W0, H0, W, S, ρ, own, ev, h⟩ := h
  exact ⟨W0, H0, W, S, ρ, own, ev, (Po.bind ev.wk h).imp fun d S1 W1 H1 l w s hh v rv => hk W0 H0 W1 H1 S1 ρ own v d (ev.mono l w s) rv hh⟩
theorem de_bin {op : Operator} {r : R2} {g : D → D → M D} (ho : OpR X (binaryOp op) r) (hr : OpD X.K cl r g) (ha : DE X cl E a fa) (hb : DE X cl E b fb) : DE X cl E (.BinOp a op b pos) (c2 g fa fb) := by
  refine pe_imp (pe_op ho ha hb) fun σ H Q h => ?_
  refine tE_bind h fun W0 H0 W1 H1 S1 ρ own x dx ev rx h1 => ?_
  refine ⟨W0, H0, W1, S1, ρ, own, ev, (Po.bind ev.wk h1).imp fun dy S2 W2 H2 l w s hh y ry => ?_⟩
  exact hr E σ W2 H2 S2 x y dx dy Q w s (rx.mono (l.lw ev.wk)) ry hh
theorem de_un {op : UnaryOp} {r : V → Hp → VK → Prop} {g : D → M D} (ho : UnR X (unaryOp op) r) (hr : UnD X.K cl r g) (ha : DE X cl E a fa) : DE X cl E (.UnaryOp op a pos) (c1 g fa) := by
  refine pe_imp (pe_un ho ha) fun σ H Q h => ?_
  refine tE_bind h fun W0 H0 W1 H1 S1 ρ own x dx ev rx h1 => ?_
  exact hr E σ W1 H1 S1 x dx Q ev.wk ev.st rx h1
end

/-! ### ints -/
def gAdd : D → D → M D
  | .int i, .int j => M.pure (.int (i + j))
  | .str a, .str b => if a.length + b.length ≤ 16777216 then M.pure (.str (a ++ b)) else M.bad
  | .tup xs, .tup ys => if xs.length + ys.length ≤ 16777216 then M.pure (.tup (xs ++ ys)) else M.bad
  | .lst xs, .lst ys => if xs.length + ys.length ≤ 16777216 then M.pure (.lst (xs ++ ys)) else M.bad
  | _, _ => M.bad
def gSub : D → D → M D
  | .int i, .int j => M.pure (.int (i - j))
  | _, _ => M.bad
def gMul : D → D → M D
  | .int i, .int j => if (-(2 ^ 64) < i ∧ i < 2 ^ 64) ∨ (-(2 ^ 64) < j ∧ j < 2 ^ 64) then M.pure (.int (i * j)) else M.bad
  | .tup xs, .int j => if xs.isEmpty = false ∧ 2 ≤ j ∧ j ≤ 1000 ∧ xs.length ≤ 1000 then M.pure (.tup (List.replicate j.toNat xs).flatten) else M.bad
  | .lst xs, .int j => if 0 ≤ j ∧ j ≤ 1000 ∧ xs.length ≤ 1000 then M.pure (.lst (List.replicate j.toNat xs).flatten) else M.bad
  | _, _ => M.bad
def gMod : D → D → M D
  | .int i, .int j => if 0 < j then M.pure (.int (i % j)) else M.bad
  | _, _ => M.bad
def gFdiv : D → D → M D
  | .int i, .int j => if 0 < j ∧ j < 1073741824 then M.pure (.int (i / j)) else M.bad
  | _, _ => M.bad
def gPow : D → D → M D
  | .int i, .int j => if 0 ≤ j ∧ (Builtin.Int.intBits i : Int) * j ≤ 134217728 then M.pure (.int (i ^ j.toNat)) else M.bad
  | _, _ => M.bad
def gNeg : D → M D
  | .int i => M.pure (.int (-i))
  | _ => M.bad
theorem po_bad {G : Gx} {E : WX} {σ : L2.St} {W : Wd} {H : Hp} {α : Type} {R : α → Store → Wd → Hp → Prop} (h : Po G E σ W H (.bad : Res α) R) : False := h
theorem po_if {G : Gx} {E : WX} {σ : L2.St} {W : Wd} {H : Hp} {α : Type} {S : Store} {R : α → Store → Wd → Hp → Prop} {c : Prop} [Decidable c] {m : M α} (h : Po G E σ W H ((if c then m else (M.bad : M α)) S) R) : c ∧ Po G E σ W H (m S) R := by
  by_cases hc : c
  · rw [if_pos hc] at h; exact ⟨hc, h⟩
  · rw [if_neg hc] at h; exact h.elim
theorem isline {n : Nat} (h : n ≤ 16777216) : n ≤ sizeLine := by rw [sizeLine_eq]; exact h
section
variable {X : Cx} {cl : Cls_}
theorem od_int {K : PySem.W.Frag} {C : Int → Int → Prop} [∀ i j, Decidable (C i j)] {z : Int → Int → Int} {g : D → D → M D} (hg : ∀ i j, g (.int i) (.int j) = if C i j then M.pure (.int (z i j)) else M.bad)
    (hb : ∀ x y, (∀ i j, ¬ (x = .int i ∧ y = .int j)) → g x y = M.bad) : OpD K cl (rI C fun i j => .int (z i j)) g := by
  intro E σ W H S x y dx dy Q w s rx ry h
  cases dx with
  | int i =>
    cases dy with
    | int j =>
      cases rx; cases ry
      rw [hg] at h
      obtain ⟨c, h⟩ := po_if h
      exact ⟨i, j, rfl, rfl, c, Po.val w s h (.int _)⟩
    | _ => rw [hb _ _ fun i j ⟨_, e⟩ => by cases e] at h; exact (po_bad h).elim
  | _ => rw [hb _ _ fun i j ⟨e, _⟩ => by cases e] at h; exact (po_bad h).elim
def rTrue (r : R2) : R2 := r
theorem od_sub {K : PySem.W.Frag} : OpD K cl (rI0 fun i j => .int (i - j)) gSub := by
  intro E σ W H S x y dx dy Q w s rx ry h
  cases dx with
  | int i =>
    cases dy with
    | int j => cases rx; cases ry; exact ⟨i, j, rfl, rfl, Po.val w s h (.int _)⟩
    | _ => exact (po_bad h).elim
  | _ => exact (po_bad h).elim
instance (i j : Int) : Decidable (CMul i j) := by unfold CMul; infer_instance
instance (i j : Int) : Decidable (CDiv i j) := by unfold CDiv; infer_instance
theorem RpA.rep {G : Gx} {W : Wd} {H : Hp} {vs : List V} {ds : List D} (h : RpA G W H vs ds) : ∀ n : Nat, RpA G W H (List.replicate n vs).flatten (List.replicate n ds).flatten
  | 0 => .nil
  | n + 1 => by rw [List.replicate_succ, List.replicate_succ, List.flatten_cons, List.flatten_cons]; exact h.app (RpA.rep h n)
def rMulA (K : PySem.W.Frag) : R2 := fun x y H Q => (rI CMul (fun i j => .int (i * j)) x y H Q) ∨ (rRepT K x y H Q) ∨ rRep x y H Q
theorem op_mulA : OpR X (binaryOp .Mult) (rMulA X.K) := op_mul.or (op_repT.or op_rep)
theorem od_mul {K : PySem.W.Frag} : OpD K cl (rMulA K) gMul := by
  intro E σ W H S x y dx dy Q w s rx ry h
  cases dx with
  | int i =>
    cases dy with
    | int j =>
      cases rx; cases ry
      obtain ⟨c, h⟩ := po_if h
      exact .inl ⟨i, j, rfl, rfl, c, Po.val w s h (.int _)⟩
    | _ => exact (po_bad h).elim
  | tup xs =>
    cases dy with
    | int j =>
      obtain ⟨⟨c1, c2, c3, c4⟩, h⟩ := po_if h
      cases rx with
      | @tup a vs _ ha ra =>
        cases ry
        refine .inr (.inl ⟨a, j, vs, rfl, rfl, ha.sq, fun e => ?_, c2, c3, by rw [ra.length]; exact c4, fun p hp => ?_⟩)
        · subst e
          cases ra
          cases c1
        · exact Po.new w s h hp (Rp.newTup w hp (ra.rep _))
    | _ => exact (po_bad h).elim
  | lst xs =>
    cases dy with
    | int j =>
      obtain ⟨⟨c1, c2, c3⟩, h⟩ := po_if h
      cases rx with
      | @lst a vs _ ha _ ra =>
        cases ry
        have hm : vs.length * j.toNat ≤ 1000 * 1000 := Nat.mul_le_mul (by rw [ra.length]; exact c3) (by omega)
        refine .inr (.inr ⟨a, j, vs, rfl, rfl, ha, by omega, by omega, isline (by omega), fun p hp => ?_⟩)
        exact Po.new w s h hp (Rp.newLst w hp (ra.rep _))
    | _ => exact (po_bad h).elim
  | _ => exact (po_bad h).elim
theorem od_mod {K : PySem.W.Frag} : OpD K cl (rI (fun _ j => 0 < j) fun i j => .int (i % j)) gMod := by
  intro E σ W H S x y dx dy Q w s rx ry h
  cases dx with
  | int i =>
    cases dy with
    | int j =>
      cases rx; cases ry
      obtain ⟨c, h⟩ := po_if h
      exact ⟨i, j, rfl, rfl, c, Po.val w s h (.int _)⟩
    | _ => exact (po_bad h).elim
  | _ => exact (po_bad h).elim
theorem od_fdiv {K : PySem.W.Frag} : OpD K cl (rI CDiv fun i j => .int (i / j)) gFdiv := by
  intro E σ W H S x y dx dy Q w s rx ry h
  cases dx with
  | int i =>
    cases dy with
    | int j =>
      cases rx; cases ry
      obtain ⟨c, h⟩ := po_if h
      exact ⟨i, j, rfl, rfl, c, Po.val w s h (.int _)⟩
    | _ => exact (po_bad h).elim
  | _ => exact (po_bad h).elim
def CPowW (i j : Int) : Prop := 0 ≤ j ∧ (Builtin.Int.intBits i : Int) * j ≤ 134217728
theorem op_powW : OpR X (binaryOp .Pow) (rI CPowW fun i j => .int (i ^ j.toNat)) := opI fun _ _ _ _ _ _ _ hc q => pow_int hc.1 (by have := hc.2; omega) q
theorem od_pow {K : PySem.W.Frag} : OpD K cl (rI CPowW fun i j => .int (i ^ j.toNat)) gPow := by
  intro E σ W H S x y dx dy Q w s rx ry h
  cases dx with
  | int i =>
    cases dy with
    | int j =>
      cases rx; cases ry
      obtain ⟨c, h⟩ := po_if h
      exact ⟨i, j, rfl, rfl, c, Po.val w s h (.int _)⟩
    | _ => exact (po_bad h).elim
  | _ => exact (po_bad h).elim
theorem ud_neg {K : PySem.W.Frag} : UnD K cl (rU fun i => .int (-i)) gNeg := by
  intro E σ W H S x dx Q w s rx h
  cases dx with
  | int i => cases rx; exact ⟨i, rfl, Po.val w s h (.int _)⟩
  | _ => exact (po_bad h).elim
/-- + of ints, texts, tuples, lists -/
def rAddA (K : PySem.W.Frag) : R2 := fun x y H Q => (rI0 (fun i j => .int (i + j)) x y H Q) ∨ (∃ i j, x = .str i ∧ y = .str j ∧ i.length + j.length ≤ sizeLine ∧ Q (.str (i ++ j)) H) ∨ (rCatA K x y H Q) ∨ rCat x y H Q
theorem op_addA : OpR X (binaryOp .Add) (rAddA X.K) := op_add.or (op_add_str.or (op_catA.or op_cat))
theorem od_add {K : PySem.W.Frag} : OpD K cl (rAddA K) gAdd := by
  intro E σ W H S x y dx dy Q w s rx ry h
  cases dx with
  | int i =>
    cases dy with
    | int j => cases rx; cases ry; exact .inl ⟨i, j, rfl, rfl, Po.val w s h (.int _)⟩
    | _ => exact (po_bad h).elim
  | str i =>
    cases dy with
    | str j =>
      cases rx; cases ry
      obtain ⟨c, h⟩ := po_if h
      exact .inr (.inl ⟨i, j, rfl, rfl, isline c, Po.val w s h (.str _)⟩)
    | _ => exact (po_bad h).elim
  | tup xs =>
    cases dy with
    | tup ys =>
      obtain ⟨c, h⟩ := po_if h
      cases rx with
      | @tup a vs _ ha ra =>
        cases ry with
        | @tup b us _ hb rb =>
          refine .inr (.inr (.inl ⟨a, b, vs, us, rfl, rfl, ha.sq, hb.sq, by rw [ra.length, rb.length]; exact isline c, fun e => ?_, fun _ e => ?_, fun _ _ p hp => ?_⟩))
          · subst e
            cases ra
            exact Po.val w s h (.tup hb rb)
          · subst e
            cases rb
            rw [List.append_nil] at h
            exact Po.val w s h (.tup ha ra)
          · exact Po.new w s h hp (Rp.newTup w hp (ra.app rb))
    | _ => exact (po_bad h).elim
  | lst xs =>
    cases dy with
    | lst ys =>
      obtain ⟨c, h⟩ := po_if h
      cases rx with
      | @lst a vs _ ha _ ra =>
        cases ry with
        | @lst b us _ hb _ rb =>
          refine .inr (.inr (.inr ⟨a, b, vs, us, rfl, rfl, ha, hb, by rw [ra.length, rb.length]; exact isline c, fun p hp => ?_⟩))
          exact Po.new w s h hp (Rp.newLst w hp (ra.app rb))
    | _ => exact (po_bad h).elim
  | _ => exact (po_bad h).elim
variable {E : WX} {a b c : Expr} {fa fb fc : Env → M D} {pos : Pos}
theorem de_add (ha : DE X cl E a fa) (hb : DE X cl E b fb) : DE X cl E (.BinOp a .Add b pos) (c2 gAdd fa fb) := de_bin op_addA od_add ha hb
theorem de_sub (ha : DE X cl E a fa) (hb : DE X cl E b fb) : DE X cl E (.BinOp a .Sub b pos) (c2 gSub fa fb) := de_bin op_sub od_sub ha hb
theorem de_mul (ha : DE X cl E a fa) (hb : DE X cl E b fb) : DE X cl E (.BinOp a .Mult b pos) (c2 gMul fa fb) := de_bin op_mulA od_mul ha hb
theorem de_mod (ha : DE X cl E a fa) (hb : DE X cl E b fb) : DE X cl E (.BinOp a .Mod b pos) (c2 gMod fa fb) := de_bin op_mod od_mod ha hb
theorem de_fdiv (ha : DE X cl E a fa) (hb : DE X cl E b fb) : DE X cl E (.BinOp a .FloorDiv b pos) (c2 gFdiv fa fb) := de_bin op_fdiv od_fdiv ha hb
theorem de_pow (ha : DE X cl E a fa) (hb : DE X cl E b fb) : DE X cl E (.BinOp a .Pow b pos) (c2 gPow fa fb) := de_bin op_powW od_pow ha hb
theorem de_neg (ha : DE X cl E a fa) : DE X cl E (.UnaryOp .USub a pos) (c1 gNeg fa) := de_un un_neg ud_neg ha
end

/-! ### comparisons -/
mutual
def toP : D → Option PyData
  | .non => some .none
  | .bl b => some (.bool b)
  | .int i => some (.int i)
  | .str x => some (.str x)
  | .tup xs => (toPs xs).map .tuple
  | .lst xs => (toPs xs).map .list
  | _ => none
def toPs : List D → Option (List PyData)
  | [] => some []
  | d :: ds => match toP d, toPs ds with
    | some p, some ps => some (p :: ps)
    | _, _ => none
end
section
variable {K : PySem.W.Frag} {cl : Cls_} {W : Wd} {H : Hp}
mutual
theorem Rp.dp : ∀ {d : D} {v : V} {p : PyData}, Rp ⟨K, cl⟩ W H v d → toP d = some p → Dp K H v p
  | .non, _, _, .non, e => by simp [toP] at e; subst e; exact .non
  | .bl b, _, _, .bl _, e => by simp [toP] at e; subst e; exact .bl b
  | .int b, _, _, .int _, e => by simp [toP] at e; subst e; exact .int b
  | .str b, _, _, .str _, e => by simp [toP] at e; subst e; exact .str b
  | .tup ds, _, _, .tup h r, e => by
    simp only [toP, Option.map_eq_some_iff] at e
    obtain ⟨ps, e1, e2⟩ := e
    subst e2
    exact .tup h.sq (RpA.dp r e1)
  | .lst ds, _, _, .lst h _ r, e => by
    simp only [toP, Option.map_eq_some_iff] at e
    obtain ⟨ps, e1, e2⟩ := e
    subst e2
    exact .lst (SqL.of h) (RpA.dp r e1)
  | .dct _, _, _, _, e => by simp [toP] at e
  | .mut _, _, _, _, e => by simp [toP] at e
  | .ins _ _, _, _, _, e => by simp [toP] at e
  | .scr _, _, _, _, e => by simp [toP] at e
theorem RpA.dp : ∀ {ds : List D} {vs : List V} {ps : List PyData}, RpA ⟨K, cl⟩ W H vs ds → toPs ds = some ps → DpAll K H vs ps
  | [], _, _, .nil, e => by simp [toPs] at e; subst e; exact .nil
  | d :: ds, _, _, .cons r t, e => by
    unfold toPs at e
    cases q1 : toP d with
    | none => rw [q1] at e; simp at e
    | some p =>
      cases q2 : toPs ds with
      | none => rw [q1, q2] at e; simp at e
      | some ps =>
        rw [q1, q2] at e
        simp at e; subst e
        exact .cons (Rp.dp r q1) (RpA.dp t q2)
end
end
/-- == of data -/
def eqD (x y : D) : Option Bool := match toP x, toP y with
  | some p, some q => if SeqAt.shaped p = true ∧ SeqAt.shaped q = true then some (PyData.eqv p q) else none
  | _, _ => none
def gEq (x y : D) : M D := match eqD x y with
  | some b => M.pure (.bl b)
  | none => M.bad
def gNe (x y : D) : M D := match eqD x y with
  | some b => M.pure (.bl (!b))
  | none => M.bad
def gLt : D → D → M D
  | .int i, .int j => M.pure (.bl (decide (i < j)))
  | .str i, .str j => M.pure (.bl (decide (i.cps.toList < j.cps.toList)))
  | _, _ => M.bad
def gLe : D → D → M D
  | .int i, .int j => M.pure (.bl (decide (i ≤ j)))
  | .str i, .str j => M.pure (.bl (!decide (j.cps.toList < i.cps.toList)))
  | _, _ => M.bad
def gGt : D → D → M D
  | .int i, .int j => M.pure (.bl (decide (j < i)))
  | _, _ => M.bad
def gGe : D → D → M D
  | .int i, .int j => M.pure (.bl (decide (j ≤ i)))
  | _, _ => M.bad
def gIsN : D → D → M D
  | .non, .non => M.pure (.bl true)
  | _, .non => M.pure (.bl false)
  | _, _ => M.bad
def gNotN : D → D → M D
  | .non, .non => M.pure (.bl false)
  | _, .non => M.pure (.bl true)
  | _, _ => M.bad
section
variable {X : Cx} {K : PySem.W.Frag} {cl : Cls_}
theorem od_eq : OpD K cl (rEqD K) gEq := by
  intro E σ W H S x y dx dy Q w s rx ry h
  unfold gEq eqD at h
  cases q1 : toP dx with
  | none => rw [q1] at h; exact h.elim
  | some p =>
    cases q2 : toP dy with
    | none => rw [q1, q2] at h; exact h.elim
    | some q =>
      rw [q1, q2] at h
      dsimp only at h
      by_cases hc : SeqAt.shaped p = true ∧ SeqAt.shaped q = true
      · rw [if_pos hc] at h
        exact ⟨p, q, rx.dp q1, ry.dp q2, hc.1, hc.2, Po.val w s h (.bl _)⟩
      · rw [if_neg hc] at h; exact h.elim
theorem od_ne : OpD K cl (rNeD K) gNe := by
  intro E σ W H S x y dx dy Q w s rx ry h
  unfold gNe eqD at h
  cases q1 : toP dx with
  | none => rw [q1] at h; exact h.elim
  | some p =>
    cases q2 : toP dy with
    | none => rw [q1, q2] at h; exact h.elim
    | some q =>
      rw [q1, q2] at h
      dsimp only at h
      by_cases hc : SeqAt.shaped p = true ∧ SeqAt.shaped q = true
      · rw [if_pos hc] at h
        exact ⟨p, q, rx.dp q1, ry.dp q2, hc.1, hc.2, Po.val w s h (.bl _)⟩
      · rw [if_neg hc] at h; exact h.elim
def rLtA : R2 := fun x y H Q => (rI0 (fun i j => .bl (decide (i < j))) x y H Q) ∨ ∃ i j, x = .str i ∧ y = .str j ∧ Q (.bl (decide (i.cps.toList < j.cps.toList))) H
def rLeA : R2 := fun x y H Q => (rI0 (fun i j => .bl (decide (i ≤ j))) x y H Q) ∨ ∃ i j, x = .str i ∧ y = .str j ∧ Q (.bl (!decide (j.cps.toList < i.cps.toList))) H
theorem op_ltA : OpR X (compareOp .Lt) rLtA := op_lt.or op_lt_str
theorem op_leA : OpR X (compareOp .LtE) rLeA := op_le.or op_le_str
theorem od_lt : OpD K cl rLtA gLt := by
  intro E σ W H S x y dx dy Q w s rx ry h
  cases dx with
  | int i =>
    cases dy with
    | int j => cases rx; cases ry; exact .inl ⟨i, j, rfl, rfl, Po.val w s h (.bl _)⟩
    | _ => exact (po_bad h).elim
  | str i =>
    cases dy with
    | str j => cases rx; cases ry; exact .inr ⟨i, j, rfl, rfl, Po.val w s h (.bl _)⟩
    | _ => exact (po_bad h).elim
  | _ => exact (po_bad h).elim
theorem od_le : OpD K cl rLeA gLe := by
  intro E σ W H S x y dx dy Q w s rx ry h
  cases dx with
  | int i =>
    cases dy with
    | int j => cases rx; cases ry; exact .inl ⟨i, j, rfl, rfl, Po.val w s h (.bl _)⟩
    | _ => exact (po_bad h).elim
  | str i =>
    cases dy with
    | str j => cases rx; cases ry; exact .inr ⟨i, j, rfl, rfl, Po.val w s h (.bl _)⟩
    | _ => exact (po_bad h).elim
  | _ => exact (po_bad h).elim
theorem od_gt : OpD K cl (rI0 fun i j => .bl (decide (j < i))) gGt := by
  intro E σ W H S x y dx dy Q w s rx ry h
  cases dx with
  | int i =>
    cases dy with
    | int j => cases rx; cases ry; exact ⟨i, j, rfl, rfl, Po.val w s h (.bl _)⟩
    | _ => exact (po_bad h).elim
  | _ => exact (po_bad h).elim
theorem od_ge : OpD K cl (rI0 fun i j => .bl (decide (j ≤ i))) gGe := by
  intro E σ W H S x y dx dy Q w s rx ry h
  cases dx with
  | int i =>
    cases dy with
    | int j => cases rx; cases ry; exact ⟨i, j, rfl, rfl, Po.val w s h (.bl _)⟩
    | _ => exact (po_bad h).elim
  | _ => exact (po_bad h).elim
theorem od_isN : OpD K cl (fun x y H Q => y = .non ∧ Q (.bl (decide (x = .non))) H) gIsN := by
  intro E σ W H S x y dx dy Q w s rx ry h
  cases dy with
  | non =>
    cases ry
    refine ⟨rfl, ?_⟩
    cases rx <;> exact Po.val w s h (.bl _)
  | _ => cases dx <;> exact (po_bad h).elim
theorem od_notN : OpD K cl (fun x y H Q => y = .non ∧ Q (.bl (!decide (x = .non))) H) gNotN := by
  intro E σ W H S x y dx dy Q w s rx ry h
  cases dy with
  | non =>
    cases ry
    refine ⟨rfl, ?_⟩
    cases rx <;> exact Po.val w s h (.bl _)
  | _ => cases dx <;> exact (po_bad h).elim
end
section
variable {X : Cx} {cl : Cls_} {E : WX} {a b c : Expr} {fa fb fc : Env → M D} {pos : Pos}
theorem de_cmp {op : CmpOp} {r : R2} {g : D → D → M D} (ho : OpR X (compareOp op) r) (hr : OpD X.K cl r g) (ha : DE X cl E a fa) (hb : DE X cl E b fb) (hm : behindInMarks op b = false) : DE X cl E (.Compare a [op] [b] pos) (c2 g fa fb) := by
  refine pe_imp (pe_cmpR ho ha hb hm) fun σ H Q h => ?_
  refine tE_bind h fun W0 H0 W1 H1 S1 ρ own x dx ev rx h1 => ?_
  refine ⟨W0, H0, W1, S1, ρ, own, ev, (Po.bind ev.wk h1).imp fun dy S2 W2 H2 l w s hh y ry => ?_⟩
  exact hr E σ W2 H2 S2 x y dx dy Q w s (rx.mono (l.lw ev.wk)) ry hh
/-- a bool, as a test -/
def cB (f : Env → M D) : Env → M Bool := fun ρ => do
  let d ← f ρ
  match d with
  | .bl b => M.pure b
  | _ => M.bad
theorem tB_of {G : Gx} {f : Env → M D} {σ : L2.St} {H : Hp} {Q : Bool → Hp → Prop} (h : tB_ G E (cB f) σ H Q) : tE G E f σ H (fun x H' => ∃ k, x = .bl k ∧ Q k H') := by
  obtain ⟨W0, H0, W, S, ρ, own, ev, h⟩ := h
  refine ⟨W0, H0, W, S, ρ, own, ev, (Po.bind ev.wk h).imp fun d S1 W1 H1 l w s hh v rv => ?_⟩
  cases d with
  | bl b => cases rv; exact ⟨b, rfl, Po.now w s hh⟩
  | _ => exact hh.elim
theorem tE_mono {G : Gx} {f : Env → M D} {σ : L2.St} {H : Hp} {Q Q' : VK} (h : tE G E f σ H Q) (i : ∀ v H, Q v H → Q' v H) : tE G E f σ H Q' := by
  obtain ⟨W0, H0, W, S, ρ, own, ev, h⟩ := h
  exact ⟨W0, H0, W, S, ρ, own, ev, h.imp fun d S1 W1 H1 l w s hh v rv => i _ _ (hh v rv)⟩
theorem dt_cmp {op : CmpOp} {r : R2} {g : D → D → M D} (ho : OpR X (compareOp op) r) (hr : OpD X.K cl r g) (ha : DE X cl E a fa) (hb : DE X cl E b fb) (hm : behindInMarks op b = false) : DT X cl E (.Compare a [op] [b] pos) (cB (c2 g fa fb)) := by
  refine pt_imp (pt_cmpR ho ha hb hm) fun σ H Q h => ?_
  have h := tB_of h
  refine tE_bind h fun W0 H0 W1 H1 S1 ρ own x dx ev rx h1 => ?_
  refine ⟨W0, H0, W1, S1, ρ, own, ev, (Po.bind ev.wk h1).imp fun dy S2 W2 H2 l w s hh y ry => ?_⟩
  exact hr E σ W2 H2 S2 x y dx dy _ w s (rx.mono (l.lw ev.wk)) ry hh
/-- an expression that gives a bool (no comparison, and, or, not), as a test -/
theorem dt_val (h : DE X cl E a fa) (he : ∀ whole, isTrue a X.env whole = (do let v ← whole; standAt a.pos; holding [v] (truthy v)) := by intro _; rfl) : DT X cl E a (cB fa) :=
  pt_imp (pt_val h he) fun σ H Q h => tB_of h
def cNotB (f : Env → M Bool) : Env → M Bool := fun ρ => do let b ← f ρ; M.pure (!b)
def cAndB (f g : Env → M Bool) : Env → M Bool := fun ρ => do let b ← f ρ; if b then g ρ else M.pure false
def cOrB (f g : Env → M Bool) : Env → M Bool := fun ρ => do let b ← f ρ; if b then M.pure true else g ρ
theorem tB_bind {G : Gx} {α : Type} {fa : Env → M Bool} {k : Env → Bool → M Bool} {σ : L2.St} {H : Hp} {Q R : Bool → Hp → Prop} (h : tB_ G E (fun ρ => fa ρ >>= k ρ) σ H Q)
    (hk : ∀ W0 H0 W1 H1 S1 ρ own b, Ev G W0 H0 W1 H1 S1 σ ρ own → Po G E σ W1 H1 (k ρ b S1) (fun b _ _ H' => Q b H') → R b H1) : tB_ G E fa σ H R := by
  obtain ⟨W0, H0, W, S, ρ, own, ev, h⟩ := h
  exact ⟨W0, H0, W, S, ρ, own, ev, (Po.bind ev.wk h).imp fun d S1 W1 H1 l w s hh => hk W0 H0 W1 H1 S1 ρ own d (ev.mono l w s) hh⟩
theorem dt_not {ta : Env → M Bool} (h : DT X cl E a ta) : DT X cl E (.UnaryOp .Not a pos) (cNotB ta) :=
  pt_imp (pt_not h) fun σ H Q h => tB_bind (α := Bool) h fun _ _ _ _ _ _ _ b ev hh => Po.now ev.wk ev.st hh
/-- and, or: a test whatever its whole is -/
abbrev DW (X : Cx) (cl : Cls_) (E : WX) (e : Expr) (f : Env → M Bool) : Prop := PW X e (tB_ ⟨X.K, cl⟩ E f)
theorem pw_imp {e : Expr} {t t' : TT} (h : PW X e t) (i : ∀ σ H Q, t' σ H Q → t σ H Q) : PW X e t' := ⟨fun wh pins s σ H Q I q => h.run wh pins s σ H Q I (i σ H Q q)⟩
theorem dw_and1 {ta : Env → M Bool} (h : DT X cl E a ta) : DW X cl E (.BoolOp .And [a] pos) ta := pw_and1 h
theorem dw_or1 {ta : Env → M Bool} (h : DT X cl E a ta) : DW X cl E (.BoolOp .Or [a] pos) ta := pw_or1 h
theorem dw_and {rest : List Expr} {ta tb : Env → M Bool} (ha : DT X cl E a ta) (hb : DW X cl E (.BoolOp .And (b :: rest) pos) tb) : DW X cl E (.BoolOp .And (a :: b :: rest) pos) (cAndB ta tb) := by
  refine pw_imp (pw_and ha hb) fun σ H Q h => tB_bind (α := Bool) h fun W0 H0 W1 H1 S1 ρ own k ev hh => ?_
  cases k with
  | true =>
    rw [if_pos rfl] at hh
    rw [if_pos rfl]
    exact ⟨W0, H0, W1, S1, ρ, own, ev, hh⟩
  | false => exact Po.now ev.wk ev.st hh
theorem dw_or {rest : List Expr} {ta tb : Env → M Bool} (ha : DT X cl E a ta) (hb : DW X cl E (.BoolOp .Or (b :: rest) pos) tb) : DW X cl E (.BoolOp .Or (a :: b :: rest) pos) (cOrB ta tb) := by
  refine pw_imp (pw_or ha hb) fun σ H Q h => tB_bind (α := Bool) h fun W0 H0 W1 H1 S1 ρ own k ev hh => ?_
  cases k with
  | true => exact Po.now ev.wk ev.st hh
  | false =>
    rw [if_neg Bool.false_ne_true] at hh
    rw [if_neg Bool.false_ne_true]
    exact ⟨W0, H0, W1, S1, ρ, own, ev, hh⟩
theorem dw_t {ta : Env → M Bool} (h : DW X cl E a ta) : DT X cl E a ta := PW.pt h
/-! .. as values -/
def cAndV (f g : Env → M D) : Env → M D := fun ρ => do
  let d ← f ρ
  match d with
  | .bl true => g ρ
  | .bl false => M.pure (.bl false)
  | _ => M.bad
def cOrV (f g : Env → M D) : Env → M D := fun ρ => do
  let d ← f ρ
  match d with
  | .bl false => g ρ
  | .bl true => M.pure (.bl true)
  | _ => M.bad
def gNot : D → M D
  | .bl b => M.pure (.bl (!b))
  | _ => M.bad
theorem de_one {op} (h : DE X cl E a fa) : DE X cl E (.BoolOp op [a] pos) fa := pe_one h
theorem de_and {rest : List Expr} (ha : DE X cl E a fa) (hb : DE X cl E (.BoolOp .And (b :: rest) pos) fb) : DE X cl E (.BoolOp .And (a :: b :: rest) pos) (cAndV fa fb) := by
  refine pe_imp (pe_and ha hb) fun σ H Q h => tE_bind h fun W0 H0 W1 H1 S1 ρ own x dx ev rx hh => ?_
  cases dx with
  | bl k =>
    cases rx
    refine ⟨k, rfl, ?_⟩
    cases k with
    | true => rw [if_pos rfl]; exact ⟨W0, H0, W1, S1, ρ, own, ev, hh⟩
    | false => exact Po.val ev.wk ev.st hh (.bl _)
  | _ => exact hh.elim
theorem de_or {rest : List Expr} (ha : DE X cl E a fa) (hb : DE X cl E (.BoolOp .Or (b :: rest) pos) fb) : DE X cl E (.BoolOp .Or (a :: b :: rest) pos) (cOrV fa fb) := by
  refine pe_imp (pe_or ha hb) fun σ H Q h => tE_bind h fun W0 H0 W1 H1 S1 ρ own x dx ev rx hh => ?_
  cases dx with
  | bl k =>
    cases rx
    refine ⟨k, rfl, ?_⟩
    cases k with
    | false => rw [if_neg Bool.false_ne_true]; exact ⟨W0, H0, W1, S1, ρ, own, ev, hh⟩
    | true => exact Po.val ev.wk ev.st hh (.bl _)
  | _ => exact hh.elim
theorem de_not (ha : DE X cl E a fa) : DE X cl E (.UnaryOp .Not a pos) (c1 gNot fa) := by
  refine pe_imp (pe_not ha) fun σ H Q h => tE_bind h fun W0 H0 W1 H1 S1 ρ own x dx ev rx hh => ?_
  cases dx with
  | bl k => cases rx; exact ⟨k, rfl, Po.val ev.wk ev.st hh (.bl _)⟩
  | _ => exact hh.elim
/-- a if t else b -/
def cIf (t : Env → M Bool) (f g : Env → M D) : Env → M D := fun ρ => do let b ← t ρ; if b then f ρ else g ρ
theorem de_if {ta : Env → M Bool} (ht : DT X cl E c ta) (ha : DE X cl E a fa) (hb : DE X cl E b fb) : DE X cl E (.IfExp c a b pos) (cIf ta fa fb) := by
  refine pe_imp (pe_ifExp ht ha hb) fun σ H Q ⟨W0, H0, W, S, ρ, own, ev, h⟩ => ?_
  refine ⟨W0, H0, W, S, ρ, own, ev, (Po.bind ev.wk h).imp fun k S1 W1 H1 l w s hh => ?_⟩
  have ev1 := ev.mono l w s
  cases k with
  | true =>
    refine iteT ?_
    exact ⟨W0, H0, W1, S1, ρ, own, ev1, hh⟩
  | false =>
    refine iteF ?_
    exact ⟨W0, H0, W1, S1, ρ, own, ev1, hh⟩
/-- a op1 b op2 c -/
def cChain (g1 g2 : D → D → M D) (fa fb fc : Env → M D) : Env → M D := fun ρ => do
  let x ← fa ρ
  let y ← fb ρ
  let k ← g1 x y
  match k with
  | .bl true => do let z ← fc ρ; g2 y z
  | .bl false => M.pure (.bl false)
  | _ => M.bad
theorem tChain_of {G : Gx} {r r' : R2} {g1 g2 : D → D → M D} {σ : L2.St} {H : Hp} {Q : VK} (hr : OpD G.K G.cl r g1) (hr' : OpD G.K G.cl r' g2) (h : tE G E (cChain g1 g2 fa fb fc) σ H Q) : tChain r r' (tE G E fa) (tE G E fb) (tE G E fc) σ H Q := by
  refine tE_bind h fun W0 H0 W1 H1 S1 ρ own x dx ev rx h1 => ?_
  refine ⟨W0, H0, W1, S1, ρ, own, ev, (Po.bind ev.wk h1).imp fun dy S2 W2 H2 l w s hh y ry => ?_⟩
  have ev2 := ev.mono l w s
  have rx2 := rx.mono (l.lw ev.wk)
  refine hr E σ W2 H2 S2 x y dx dy _ w s rx2 ry ((Po.bind w hh).imp fun k S3 W3 H3 l3 w3 s3 h3 v rv => ?_)
  have ev3 := ev2.mono l3 w3 s3
  cases k with
  | bl k =>
    cases rv
    refine ⟨k, rfl, ?_⟩
    cases k with
    | true =>
      rw [if_pos rfl]
      refine ⟨W0, H0, W3, S3, ρ, own, ev3, (Po.bind w3 h3).imp fun dz S4 W4 H4 l4 w4 s4 h4 z rz => ?_⟩
      exact hr' E σ W4 H4 S4 y z dy dz Q w4 s4 ((ry.mono (l3.lw w)).mono (l4.lw w3)) rz h4
    | false =>
      rw [if_neg Bool.false_ne_true]
      exact Po.val w3 s3 h3 (.bl _)
  | _ => exact h3.elim
theorem de_chain {op op' : CmpOp} {r r' : R2} {g1 g2 : D → D → M D} (ho : OpR X (compareOp op) r) (ho' : OpR X (compareOp op') r') (hr : OpD X.K cl r g1) (hr' : OpD X.K cl r' g2) (ha : DE X cl E a fa) (hb : DE X cl E b fb) (hc : DE X cl E c fc)
    (hm : lastMarks [op, op'] [b, c] = false := by with_unfolding_all rfl) : DE X cl E (.Compare a [op, op'] [b, c] pos) (cChain g1 g2 fa fb fc) :=
  pe_imp (pe_chain ho ho' ha hb hc hm) fun σ H Q h => tChain_of (G := ⟨X.K, cl⟩) hr hr' h
theorem dt_chain {op op' : CmpOp} {r r' : R2} {g1 g2 : D → D → M D} (ho : OpR X (compareOp op) r) (ho' : OpR X (compareOp op') r') (hr : OpD X.K cl r g1) (hr' : OpD X.K cl r' g2) (ha : DE X cl E a fa) (hb : DE X cl E b fb) (hc : DE X cl E c fc)
    (hm : lastMarks [op, op'] [b, c] = false := by with_unfolding_all rfl) : DT X cl E (.Compare a [op, op'] [b, c] pos) (cB (cChain g1 g2 fa fb fc)) :=
  pt_imp (pt_chain ho ho' ha hb hc hm) fun σ H Q h => tChain_of (G := ⟨X.K, cl⟩) hr hr' (tB_of h)
end
end DN
/-! DN3: argument lists, displays, subscripts, calls, iteration, comprehensions. -/
namespace DN
open PySem PySem.Spec PyProof.Rows L2

/-! ### argument lists, displays -/
def cNil : Env → M (List D) := fun _ => M.pure []
def cCons (fa : Env → M D) (fs : Env → M (List D)) : Env → M (List D) := fun ρ => do let x ← fa ρ; let xs ← fs ρ; M.pure (x :: xs)
section
variable {X : Cx} {cl : Cls_} {E : WX} {e : Expr} {es : List Expr} {fa : Env → M D} {fs : Env → M (List D)} {pos : Pos}
theorem da_nil : DA X cl E [] cNil := pa_imp pa_nil fun σ H Q ⟨W0, H0, W, S, ρ, own, ev, h⟩ => Po.now ev.wk ev.st h [] .nil
theorem da_cons (ha : DE X cl E e fa) (hs : DA X cl E es fs) (hst : starEach (e :: es) X.env = (false, eval e X.env) :: starEach es X.env := by rfl) : DA X cl E (e :: es) (cCons fa fs) := by
  refine pa_imp (pa_cons ha hs hst) fun σ H Q ⟨W0, H0, W, S, ρ, own, ev, h⟩ => ?_
  refine ⟨W0, H0, W, S, ρ, own, ev, (Po.bind ev.wk h).imp fun d S1 W1 H1 l w s hh v rv => ?_⟩
  refine ⟨W0, H0, W1, S1, ρ, own, ev.mono l w s, (Po.bind w hh).imp fun ds S2 W2 H2 l2 w2 s2 h2 vs rvs => ?_⟩
  exact Po.now w2 s2 h2 _ (.cons (rv.mono (l2.lw w)) rvs)
def gTup (ds : List D) : M D := if ds.length ≤ 16777216 then M.pure (.tup ds) else M.bad
def gLst (ds : List D) : M D := if ds.length ≤ 16777216 then M.pure (.lst ds) else M.bad
/-- a list that the store keeps -/
def gLstM (ds : List D) : M D := fun S => if ds.length ≤ 16777216 then .ok (.mut S.length) (S ++ [.lst ds]) else .bad
def cA (g : List D → M D) (fs : Env → M (List D)) : Env → M D := fun ρ => do let xs ← fs ρ; g xs
theorem tA_bind {G : Gx} {k : List D → M D} {σ : L2.St} {H : Hp} {Q : VK} {R : List V → Hp → Prop} (h : tE G E (cA k fs) σ H Q)
    (hk : ∀ W0 H0 W1 H1 S1 ρ own vs ds, Ev G W0 H0 W1 H1 S1 σ ρ own → RpA G W1 H1 vs ds → Po G E σ W1 H1 (k ds S1) (RV G Q) → R vs H1) : tA G E fs σ H R := by
  obtain ⟨W0, H0, W, S, ρ, own, ev, h⟩ := h
  exact ⟨W0, H0, W, S, ρ, own, ev, (Po.bind ev.wk h).imp fun d S1 W1 H1 l w s hh v rv => hk W0 H0 W1 H1 S1 ρ own v d (ev.mono l w s) rv hh⟩
theorem de_tup {k} (hs : DA X cl E es fs) : DE X cl E (.Tuple es k pos) (cA gTup fs) := by
  refine pe_imp (pe_tup hs) fun σ H Q h => tA_bind h fun W0 H0 W1 H1 S1 ρ own vs ds ev r hh => ?_
  obtain ⟨c, hh⟩ := po_if hh
  exact ⟨by rw [r.length]; exact isline c, fun p hp => Po.new ev.wk ev.st hh hp (Rp.newTup ev.wk hp r)⟩
theorem de_lst (hs : DA X cl E es fs) : DE X cl E (.List es pos) (cA gLst fs) := by
  refine pe_imp (pe_lst hs) fun σ H Q h => tA_bind h fun W0 H0 W1 H1 S1 ρ own vs ds ev r hh => ?_
  obtain ⟨c, hh⟩ := po_if hh
  exact ⟨by rw [r.length]; exact isline c, fun p hp => Po.new ev.wk ev.st hh hp (Rp.newLst ev.wk hp r)⟩
/-- a new cell -/
theorem new_cell {G : Gx} {W : Wd} {H : Hp} {S : Store} {p : Addr} {o : HO} {c : Cell} (w : WOk W H) (s : StOk G W H S) (hp : H p = none)
    (hc : ∀ W', Lw W H W' (upd H p o) → CellOk G W' (upd H p o) p c) : ∃ W', Le W H W' (upd H p o) ∧ WOk W' (upd H p o) ∧ StOk G W' (upd H p o) (S ++ [c]) ∧ W'.phi S.length = some p := by
  have nb := w.free hp
  have sm := Same.new (o := o) hp
  have lw : Lw W H ⟨fun n => if n = S.length then some p else W.phi n, fun a => W.B a ∨ a = p⟩ (upd H p o) := by
    refine ⟨fun n a h => ?_, fun a h => ?_, fun b u h _ => sm b u h⟩
    · have ne : n ≠ S.length := fun e => by subst e; rw [s.top _ (Nat.le_refl _)] at h; cases h
      show (if n = S.length then some p else W.phi n) = some a
      rw [if_neg ne]; exact h
    · rcases h with h | rfl
      · exact .inl h
      · exact .inr hp
  refine ⟨_, ⟨lw.ph, fun n a h => ?_, fun a h => .inl h, lw.Bn, fun b u h => .inr (sm b u h)⟩, ⟨fun a h => ?_, fun n a h => ?_, fun n m a h1 h2 => ?_⟩, ⟨fun n c' h => ?_, fun n h => ?_⟩, if_pos rfl⟩
  · by_cases e : n = S.length
    · have h : (if n = S.length then some p else W.phi n) = some a := h
      rw [if_pos e] at h
      cases h; exact .inr hp
    · have h : (if n = S.length then some p else W.phi n) = some a := h
      rw [if_neg e] at h
      exact .inl h
  · rcases h with h | rfl
    · obtain ⟨u, e⟩ := w.tr a h
      exact ⟨u, sm a u e⟩
    · exact ⟨o, upd_same⟩
  · have h : (if n = S.length then some p else W.phi n) = some a := h
    by_cases e : n = S.length
    · rw [if_pos e] at h
      cases h; exact .inr rfl
    · rw [if_neg e] at h
      exact .inl (w.rg n a h)
  · have h1 : (if n = S.length then some p else W.phi n) = some a := h1
    have h2 : (if m = S.length then some p else W.phi m) = some a := h2
    by_cases e : n = S.length
    · rw [if_pos e] at h1
      cases h1
      by_cases e2 : m = S.length
      · rw [e, e2]
      · rw [if_neg e2] at h2
        exact absurd (w.rg m _ h2) nb
    · rw [if_neg e] at h1
      by_cases e2 : m = S.length
      · rw [if_pos e2] at h2
        cases h2
        exact absurd (w.rg n _ h1) nb
      · rw [if_neg e2] at h2
        exact w.ij n m a h1 h2
  · by_cases hn : n < S.length
    · rw [List.getElem?_append_left hn] at h
      obtain ⟨a, e1, e2⟩ := s.at_ n c' h
      refine ⟨a, lw.ph n a e1, e2.same lw fun u q => sm a u q⟩
    · have e : n = S.length := by
        have := (List.getElem?_eq_some_iff.mp h).1
        rw [List.length_append, List.length_singleton] at this
        omega
      subst e
      rw [List.getElem?_append_right (Nat.le_refl _), Nat.sub_self] at h
      cases h
      exact ⟨p, if_pos rfl, hc _ lw⟩
  · rw [List.length_append, List.length_singleton] at h
    show (if n = S.length then some p else W.phi n) = none
    rw [if_neg (by omega)]
    exact s.top n (by omega)
theorem de_lstM (hs : DA X cl E es fs) : DE X cl E (.List es pos) (cA gLstM fs) := by
  refine pe_imp (pe_lst hs) fun σ H Q h => tA_bind h fun W0 H0 W1 H1 S1 ρ own vs ds ev r hh => ?_
  unfold gLstM at hh
  by_cases c : ds.length ≤ 16777216
  · rw [if_pos c] at hh
    refine ⟨by rw [r.length]; exact isline c, fun p hp => ?_⟩
    obtain ⟨W', l, w, s, e⟩ := new_cell (c := .lst ds) ev.wk ev.st hp fun W' lw => ⟨vs, upd_same, r.mono lw⟩
    exact hh W' _ l w s _ (.mut e)
  · rw [if_neg c] at hh
    exact hh.elim
end

/-! ### items, slices -/
def sGet (n : Nat) : M Cell := fun S => match S[n]? with
  | some c => .ok c S
  | none => .bad
def ofOpt {α : Type} : Option α → M α
  | some d => M.pure d
  | none => M.bad
def gIx : D → D → M D
  | .tup xs, .int i => ofOpt (atI xs i)
  | .lst xs, .int i => ofOpt (atI xs i)
  | .scr ns, .int i => ofOpt ((atI ns i).map D.int)
  | .str z, .int i => if z.length ≤ 16777216 then ofOpt ((atI z.cps.toList i).map fun c => D.str ⟨#[c]⟩) else M.bad
  | .mut n, .int i => fun S => match S[n]? with
    | some (.lst xs) => ofOpt (atI xs i) S
    | _ => .bad
  | _, _ => M.bad
theorem atI_map {α β : Type} (f : α → β) (xs : List α) (i : Int) : atI (xs.map f) i = (atI xs i).map f := by
  unfold atI
  rw [List.length_map]
  cases ixN xs.length i with
  | none => rfl
  | some j => simp
theorem atI_rel {G : Gx} {W : Wd} {H : Hp} {vs : List V} {ds : List D} {i : Int} {d : D} (r : RpA G W H vs ds) (h : atI ds i = some d) : ∃ v, atI vs i = some v ∧ Rp G W H v d := by
  unfold atI at h ⊢
  rw [r.length]
  cases q : ixN ds.length i with
  | none => rw [q] at h; cases h
  | some j =>
    rw [q] at h
    exact r.get h
section
variable {X : Cx} {cl : Cls_} {K : PySem.W.Frag}
theorem po_opt {G : Gx} {E : WX} {σ : L2.St} {W : Wd} {H : Hp} {S : Store} {α : Type} {o : Option α} {R : α → Store → Wd → Hp → Prop} (h : Po G E σ W H (ofOpt o S) R) : ∃ d, o = some d ∧ Po G E σ W H (.ok d S) R := by
  cases o with
  | none => exact h.elim
  | some d => exact ⟨d, rfl, h⟩
theorem od_ix : OpD K cl (rIx K) gIx := by
  intro E σ W H S x y dx dy Q w s rx ry h
  cases dy with
  | int i =>
    cases ry
    cases dx with
    | tup xs =>
      obtain ⟨d, e, h⟩ := po_opt h
      cases rx with
      | tup ha ra =>
        obtain ⟨v, e1, r1⟩ := atI_rel ra e
        exact .inr (.inl ⟨_, _, i, v, rfl, rfl, ha.sq, e1, Po.val w s h r1⟩)
    | lst xs =>
      obtain ⟨d, e, h⟩ := po_opt h
      cases rx with
      | lst ha _ ra =>
        obtain ⟨v, e1, r1⟩ := atI_rel ra e
        exact .inl ⟨_, _, i, v, rfl, rfl, SqL.of ha, e1, Po.val w s h r1⟩
    | scr ns =>
      obtain ⟨d, e, h⟩ := po_opt h
      obtain ⟨k, e1, e2⟩ := Option.map_eq_some_iff.mp e
      subst e2
      cases rx with
      | scr ha => exact .inl ⟨_, _, i, .int k, rfl, rfl, ha.sq, by rw [atI_map, e1]; rfl, Po.val w s h (.int k)⟩
    | str z =>
      obtain ⟨c, h⟩ := po_if h
      obtain ⟨d, e, h⟩ := po_opt h
      obtain ⟨k, e1, e2⟩ := Option.map_eq_some_iff.mp e
      subst e2
      cases rx
      exact .inr (.inr ⟨z, i, k, rfl, rfl, isline c, e1, Po.val w s h (.str _)⟩)
    | «mut» n =>
      unfold gIx at h
      dsimp only at h
      cases q : S[n]? with
      | none => rw [q] at h; exact h.elim
      | some c =>
        rw [q] at h
        cases c with
        | dct _ => exact h.elim
        | lst xs =>
          obtain ⟨d, e, h⟩ := po_opt h
          obtain ⟨a, e1, vs, e2, ra⟩ := s.at_ n _ q
          cases rx with
          | «mut» e0 =>
            rw [e1] at e0; cases e0
            obtain ⟨v, e3, r1⟩ := atI_rel ra e
            exact .inl ⟨_, _, i, v, rfl, rfl, SqL.of e2, e3, Po.val w s h r1⟩
    | _ => exact (po_bad h).elim
  | _ => cases dx <;> exact (po_bad h).elim
variable {E : WX} {a b : Expr} {fa fb : Env → M D} {pos : Pos}
theorem de_ix (ha : DE X cl E a fa) (hb : DE X cl E b fb) (hs : PlainIx b := by exact fun _ _ => rfl) : DE X cl E (.Subscript a b pos) (c2 gIx fa fb) := by
  refine pe_imp (pe_ix ix_seq ha hb hs) fun σ H Q h => ?_
  refine tE_bind h fun W0 H0 W1 H1 S1 ρ own x dx ev rx h1 => ?_
  refine ⟨W0, H0, W1, S1, ρ, own, ev, (Po.bind ev.wk h1).imp fun dy S2 W2 H2 l w s hh y ry => ?_⟩
  exact od_ix E σ W2 H2 S2 x y dx dy Q w s (rx.mono (l.lw ev.wk)) ry hh
/-! slices -/
def cutD {α : Type} (xs : List α) (lo hi : Option Int) : List α := (xs.drop (HT.sIx xs.length 0 lo)).take (HT.sIx xs.length xs.length hi - HT.sIx xs.length 0 lo)
def gSl (x : D) (lo hi : Option Int) : M D := match x with
  | .tup xs => M.pure (.tup (cutD xs lo hi))
  | .lst xs => M.pure (.lst (cutD xs lo hi))
  | .str z => if z.length ≤ 16777216 then M.pure (.str (cutS z lo hi)) else M.bad
  | _ => M.bad
def cPart (fa : Env → M D) : Env → M (Option Int) := fun ρ => do
  let d ← fa ρ
  match d with
  | .int i => M.pure (some i)
  | _ => M.bad
def cNoP : Env → M (Option Int) := fun _ => M.pure none
def cSl (fa : Env → M D) (fl fh : Env → M (Option Int)) : Env → M D := fun ρ => do let x ← fa ρ; let l ← fl ρ; let h ← fh ρ; gSl x l h
def tO (G : Gx) (E : WX) (f : Env → M (Option Int)) : TO := fun σ H Q => ∃ W0 H0 W S ρ own, Ev G W0 H0 W H S σ ρ own ∧ Po G E σ W H (f ρ S) (fun o _ _ H' => Q o H')
abbrev DO_ (X : Cx) (cl : Cls_) (E : WX) (e : Option Expr) (f : Env → M (Option Int)) : Prop := PO X e (tO ⟨X.K, cl⟩ E f)
theorem po_imp {e : Option Expr} {t t' : TO} (h : PO X e t) (i : ∀ σ H Q, t' σ H Q → t σ H Q) : PO X e t' := ⟨fun pins s σ H Q I q => h.run pins s σ H Q I (i σ H Q q)⟩
theorem do_none : DO_ X cl E none cNoP := po_imp po_none fun σ H Q ⟨W0, H0, W, S, ρ, own, ev, h⟩ => Po.now ev.wk ev.st h
theorem do_some (ha : DE X cl E a fa) : DO_ X cl E (some a) (cPart fa) := by
  refine po_imp (po_some ha) fun σ H Q ⟨W0, H0, W, S, ρ, own, ev, h⟩ => ?_
  refine ⟨W0, H0, W, S, ρ, own, ev, (Po.bind ev.wk h).imp fun d S1 W1 H1 l w s hh v rv => ?_⟩
  cases d with
  | int i => cases rv; exact ⟨i, rfl, Po.now w s hh⟩
  | _ => exact hh.elim
def rSlX (K : PySem.W.Frag) : V → Option Int → Option Int → Hp → VK → Prop := fun x lo hi H Q => rSlA K x lo hi H Q ∨ rSlL K x lo hi H Q ∨ ∃ z, x = .str z ∧ z.length ≤ sizeLine ∧ Q (.str (cutS z lo hi)) H
theorem cutV_cut (xs : List V) (lo hi : Option Int) : cutV xs lo hi = cutD xs lo hi := rfl
theorem RpA.cut {G : Gx} {W : Wd} {H : Hp} {vs : List V} {ds : List D} (r : RpA G W H vs ds) (lo hi : Option Int) : RpA G W H (cutD vs lo hi) (cutD ds lo hi) := by
  unfold cutD
  rw [r.length]
  exact (r.drop _).take _
theorem cut_whole {α : Type} {xs : List α} {lo hi : Option Int} (h : HT.sIx xs.length 0 lo = 0 ∧ HT.sIx xs.length xs.length hi = xs.length) : cutD xs lo hi = xs := by
  unfold cutD
  rw [h.1, h.2, List.drop_zero, Nat.sub_zero, List.take_length]
theorem sd_sl {σ : L2.St} {W : Wd} {H : Hp} {S : Store} {x : V} {dx : D} {lo hi : Option Int} {Q : VK} (w : WOk W H) (s : StOk ⟨K, cl⟩ W H S) (rx : Rp ⟨K, cl⟩ W H x dx) (h : Po ⟨K, cl⟩ E σ W H (gSl dx lo hi S) (RV ⟨K, cl⟩ Q)) : rSlX K x lo hi H Q := by
  cases dx with
  | tup xs =>
    cases rx with
    | @tup a vs _ ha ra =>
      refine .inl ⟨a, vs, rfl, ha.sq, fun e => ?_, fun e p hp => ?_⟩
      · rw [ra.length] at e
        have h : Po ⟨K, cl⟩ E σ W H (.ok (.tup (cutD xs lo hi)) S) (RV ⟨K, cl⟩ Q) := h
        rw [cut_whole e] at h
        exact Po.val w s h (.tup ha ra)
      · exact Po.new w s h hp (Rp.newTup w hp (ra.cut lo hi))
  | lst xs =>
    cases rx with
    | @lst a vs _ ha _ ra => exact .inr (.inl ⟨a, vs, rfl, SqL.of ha, fun p hp => Po.new w s h hp (Rp.newLst w hp (ra.cut lo hi))⟩)
  | str z =>
    cases rx
    obtain ⟨c, h⟩ := po_if h
    exact .inr (.inr ⟨z, rfl, isline c, Po.val w s h (.str _)⟩)
  | _ => exact (po_bad h).elim
theorem de_sl {lo hi : Option Expr} {fl fh : Env → M (Option Int)} {p2 : Pos} (ha : DE X cl E a fa) (hl : DO_ X cl E lo fl) (hh : DO_ X cl E hi fh) : DE X cl E (.Subscript a (.Slice lo hi none p2) pos) (cSl fa fl fh) := by
  refine pe_imp (pe_slice (r := rSlX X.K) (sl_tupA.or (sl_list.or sl_str)) ha hl hh) fun σ H Q h => ?_
  refine tE_bind h fun W0 H0 W1 H1 S1 ρ own x dx ev rx h1 => ?_
  refine ⟨W0, H0, W1, S1, ρ, own, ev, (Po.bind ev.wk h1).imp fun l S2 W2 H2 l2 w2 s2 h2 => ?_⟩
  have ev2 := ev.mono l2 w2 s2
  have rx2 := rx.mono (l2.lw ev.wk)
  refine ⟨W0, H0, W2, S2, ρ, own, ev2, (Po.bind w2 h2).imp fun u S3 W3 H3 l3 w3 s3 h3 => ?_⟩
  exact sd_sl w3 s3 (rx2.mono (l3.lw w2)) h3
end

/-! ### calls of built-ins -/
def CallD (K : PySem.W.Frag) (cl : Cls_) (r : List V → Hp → VK → Prop) (g : List D → M D) : Prop :=
  ∀ (E : WX) (σ : L2.St) (W : Wd) (H : Hp) (S : Store) (vs : List V) (ds : List D) (Q : VK), WOk W H → StOk ⟨K, cl⟩ W H S → RpA ⟨K, cl⟩ W H vs ds → Po ⟨K, cl⟩ E σ W H (g ds S) (RV ⟨K, cl⟩ Q) → r vs H Q
def gLen : List D → M D
  | [.tup xs] => M.pure (.int xs.length)
  | [.lst xs] => M.pure (.int xs.length)
  | [.scr xs] => M.pure (.int xs.length)
  | [.str z] => if z.length ≤ 16777216 then M.pure (.int z.length) else M.bad
  | _ => M.bad
def gInt : List D → M D
  | [.int i] => M.pure (.int i)
  | [.bl k] => M.pure (.int (if k then 1 else 0))
  | _ => M.bad
def gAbs : List D → M D
  | [.int i] => M.pure (.int (if i < 0 then -i else i))
  | _ => M.bad
def gMax2 : List D → M D
  | [.int i, .int j] => M.pure (.int (if j > i then j else i))
  | _ => M.bad
def gMin2 : List D → M D
  | [.int i, .int j] => M.pure (.int (if j < i then j else i))
  | _ => M.bad
def gTuple : List D → M D
  | [.tup xs] => M.pure (.tup xs)
  | [.lst xs] => M.pure (.tup xs)
  | _ => M.bad
def gList : List D → M D
  | [.tup xs] => M.pure (.lst xs)
  | [.lst xs] => M.pure (.lst xs)
  | _ => M.bad
def blsD : List D → Option (List Bool)
  | [] => some []
  | .bl b :: ds => (blsD ds).map (b :: ·)
  | _ :: _ => none
def gAll : List D → M D
  | [.lst xs] => match blsD xs with
    | some bs => M.pure (.bl (bs.all id))
    | none => M.bad
  | _ => M.bad
def gAny : List D → M D
  | [.lst xs] => match blsD xs with
    | some bs => M.pure (.bl (bs.any id))
    | none => M.bad
  | _ => M.bad
section
variable {X : Cx} {cl : Cls_} {K : PySem.W.Frag}
theorem RpA.inv1 {G : Gx} {W : Wd} {H : Hp} {vs : List V} {d : D} (r : RpA G W H vs [d]) : ∃ v, vs = [v] ∧ Rp G W H v d := by
  cases r with
  | cons r t => cases t; exact ⟨_, rfl, r⟩
theorem RpA.inv2 {G : Gx} {W : Wd} {H : Hp} {vs : List V} {d e : D} (r : RpA G W H vs [d, e]) : ∃ v u, vs = [v, u] ∧ Rp G W H v d ∧ Rp G W H u e := by
  cases r with
  | cons r t =>
    obtain ⟨u, rfl, r2⟩ := RpA.inv1 t
    exact ⟨_, u, rfl, r, r2⟩
theorem RpA.bls {G : Gx} {W : Wd} {H : Hp} : ∀ {ds : List D} {vs : List V} {bs : List Bool}, RpA G W H vs ds → blsD ds = some bs → vs = bs.map V.bl
  | [], _, _, .nil, e => by simp [blsD] at e; subst e; rfl
  | d :: ds, _, bs, .cons r t, e => by
    cases d with
    | bl b =>
      simp only [blsD, Option.map_eq_some_iff] at e
      obtain ⟨bs', e1, e2⟩ := e
      subst e2
      cases r
      rw [RpA.bls t e1]; rfl
    | _ => simp [blsD] at e
theorem cd_len : CallD K cl (fun xs H Q => ∃ x n, xs = [x] ∧ LenV K x H n ∧ Q (.int n) H) gLen := by
  intro E σ W H S vs ds Q w s r h
  match ds, h with
  | [.tup xs], h =>
    obtain ⟨v, rfl, rv⟩ := r.inv1
    cases rv with
    | tup ha ra => exact ⟨_, xs.length, rfl, .inr ⟨_, ha.sq, ra.length.symm⟩, Po.val w s h (.int _)⟩
  | [.lst xs], h =>
    obtain ⟨v, rfl, rv⟩ := r.inv1
    cases rv with
    | lst ha _ ra => exact ⟨_, xs.length, rfl, .inl ⟨_, SqL.of ha, ra.length.symm⟩, Po.val w s h (.int _)⟩
  | [.scr xs], h =>
    obtain ⟨v, rfl, rv⟩ := r.inv1
    cases rv with
    | scr ha => exact ⟨_, xs.length, rfl, .inl ⟨_, ha.sq, by rw [List.length_map]⟩, Po.val w s h (.int _)⟩
  | [.str z], h =>
    obtain ⟨v, rfl, rv⟩ := r.inv1
    cases rv
    obtain ⟨c, h⟩ := po_if h
    exact ⟨_, z.length, rfl, ⟨isline c, rfl⟩, Po.val w s h (.int _)⟩
theorem cd_int : CallD K cl (fun xs H Q => (∃ i, xs = [.int i] ∧ Q (.int i) H) ∨ ∃ k, xs = [.bl k] ∧ Q (.int (if k then 1 else 0)) H) gInt := by
  intro E σ W H S vs ds Q w s r h
  match ds, h with
  | [.int i], h =>
    obtain ⟨v, rfl, rv⟩ := r.inv1
    cases rv
    exact .inl ⟨i, rfl, Po.val w s h (.int _)⟩
  | [.bl k], h =>
    obtain ⟨v, rfl, rv⟩ := r.inv1
    cases rv
    exact .inr ⟨k, rfl, Po.val w s h (.int _)⟩
theorem cd_abs : CallD K cl (fun xs H Q => ∃ i, xs = [.int i] ∧ Q (.int (if i < 0 then -i else i)) H) gAbs := by
  intro E σ W H S vs ds Q w s r h
  match ds, h with
  | [.int i], h =>
    obtain ⟨v, rfl, rv⟩ := r.inv1
    cases rv
    exact ⟨i, rfl, Po.val w s h (.int _)⟩
theorem cd_max2 : CallD K cl (fun xs H Q => ∃ i j, xs = [.int i, .int j] ∧ Q (.int (if j > i then j else i)) H) gMax2 := by
  intro E σ W H S vs ds Q w s r h
  match ds, h with
  | [.int i, .int j], h =>
    obtain ⟨v, u, rfl, rv, ru⟩ := r.inv2
    cases rv; cases ru
    exact ⟨i, j, rfl, Po.val w s h (.int _)⟩
theorem cd_min2 : CallD K cl (fun xs H Q => ∃ i j, xs = [.int i, .int j] ∧ Q (.int (if j < i then j else i)) H) gMin2 := by
  intro E σ W H S vs ds Q w s r h
  match ds, h with
  | [.int i, .int j], h =>
    obtain ⟨v, u, rfl, rv, ru⟩ := r.inv2
    cases rv; cases ru
    exact ⟨i, j, rfl, Po.val w s h (.int _)⟩
theorem cd_tuple : CallD K cl (fun xs H Q => ∃ p ys, xs = [.ref p] ∧ ((SqL K H p ys ∧ ∀ l, H l = none → Q (.ref l) (upd H l (.tup ys))) ∨ (SqT K H p ys ∧ Q (.ref p) H))) gTuple := by
  intro E σ W H S vs ds Q w s r h
  match ds, h with
  | [.tup xs], h =>
    obtain ⟨v, rfl, rv⟩ := r.inv1
    cases rv with
    | tup ha ra => exact ⟨_, _, rfl, .inr ⟨ha.sq, Po.val w s h (.tup ha ra)⟩⟩
  | [.lst xs], h =>
    obtain ⟨v, rfl, rv⟩ := r.inv1
    cases rv with
    | lst ha _ ra => exact ⟨_, _, rfl, .inl ⟨SqL.of ha, fun p hp => Po.new w s h hp (Rp.newTup w hp ra)⟩⟩
theorem cd_list : CallD K cl (fun xs H Q => ∃ p ys, xs = [.ref p] ∧ (SqL K H p ys ∨ SqT K H p ys) ∧ ∀ l, H l = none → Q (.ref l) (upd H l (.lst ys))) gList := by
  intro E σ W H S vs ds Q w s r h
  match ds, h with
  | [.tup xs], h =>
    obtain ⟨v, rfl, rv⟩ := r.inv1
    cases rv with
    | tup ha ra => exact ⟨_, _, rfl, .inr ha.sq, fun p hp => Po.new w s h hp (Rp.newLst w hp ra)⟩
  | [.lst xs], h =>
    obtain ⟨v, rfl, rv⟩ := r.inv1
    cases rv with
    | lst ha _ ra => exact ⟨_, _, rfl, .inl (SqL.of ha), fun p hp => Po.new w s h hp (Rp.newLst w hp ra)⟩
theorem cd_all : CallD K cl (rAll K) gAll := by
  intro E σ W H S vs ds Q w s r h
  match ds, h with
  | [.lst xs], h =>
    obtain ⟨v, rfl, rv⟩ := r.inv1
    cases rv with
    | lst ha _ ra =>
      unfold gAll at h
      dsimp only at h
      cases q : blsD xs with
      | none => rw [q] at h; exact h.elim
      | some bs =>
        rw [q] at h
        have e := ra.bls q
        subst e
        exact ⟨_, bs, rfl, SqL.of ha, Po.val w s h (.bl _)⟩
theorem cd_any : CallD K cl (rAny K) gAny := by
  intro E σ W H S vs ds Q w s r h
  match ds, h with
  | [.lst xs], h =>
    obtain ⟨v, rfl, rv⟩ := r.inv1
    cases rv with
    | lst ha _ ra =>
      unfold gAny at h
      dsimp only at h
      cases q : blsD xs with
      | none => rw [q] at h; exact h.elim
      | some bs =>
        rw [q] at h
        have e := ra.bls q
        subst e
        exact ⟨_, bs, rfl, SqL.of ha, Po.val w s h (.bl _)⟩
variable {E : WX} {x : Str} {p pos : Pos} {e : Expr} {es : List Expr} {fs : Env → M (List D)} {id T : String} {r : List V → Hp → VK → Prop} {g : List D → M D}
theorem de_callB (hc : CallR X (.builtin id) r) (hd : CallD X.K cl r g) (hm : X.mg x = none) (ha : DA X cl E (e :: es) fs) (hv : bootBuiltins x = some (.builtin id) := by decide +kernel) (hg : Gl X x := by rfl) (hn : x ≠ "__name__" := by decide) (hdb : (x == ("__debug__" : Str)) = false := by decide)
    (he : starEach (e :: es) X.env = (false, eval e X.env) :: starEach es X.env := by rfl) (hpl : (backTo pos (starEach es X.env)).any (·.1) = false := by rfl) : DE X cl E (.Call (.Name x p) (e :: es) [] pos) (cA g fs) :=
  pe_imp (pe_callB hc hg hm hv ha hn hdb he hpl) fun σ H Q h => tA_bind h fun W0 H0 W1 H1 S1 ρ own vs ds ev rv hh => hd E σ W1 H1 S1 vs ds Q ev.wk ev.st rv hh
theorem de_callTy (hc : CallR X (.type T) r) (hd : CallD X.K cl r g) (hm : X.mg x = none) (ha : DA X cl E (e :: es) fs) (hv : bootBuiltins x = some (.type T) := by decide +kernel) (hg : Gl X x := by rfl) (hn : x ≠ "__name__" := by decide) (hdb : (x == ("__debug__" : Str)) = false := by decide)
    (he : starEach (e :: es) X.env = (false, eval e X.env) :: starEach es X.env := by rfl) (hpl : (backTo pos (starEach es X.env)).any (·.1) = false := by rfl) : DE X cl E (.Call (.Name x p) (e :: es) [] pos) (cA g fs) :=
  pe_imp (pe_callTy hc hg hm hv ha hn hdb he hpl) fun σ H Q h => tA_bind h fun W0 H0 W1 H1 S1 ρ own vs ds ev rv hh => hd E σ W1 H1 S1 vs ds Q ev.wk ev.st rv hh
end

/-! ### isinstance with a built-in class -/
def tyD : D → Option String
  | .non => some "NoneType"
  | .bl _ => some "bool"
  | .int _ => some "int"
  | .str _ => some "str"
  | .tup _ => some "tuple"
  | .lst _ => some "list"
  | .dct _ => some "dict"
  | .scr _ => some "list"
  | _ => none
def isiD (T : String) (t : String) : Bool := t == T || (t == "bool" && T == "int")
def gIsi (T : String) (d : D) : M D := match tyD d with
  | some t => M.pure (.bl (isiD T t))
  | none => M.bad
def tyNames : List String := ["NoneType", "bool", "int", "str", "tuple", "list", "dict"]
theorem isi_kit (T t : String) (hT : T ∈ ["bool", "int", "str", "tuple", "list", "dict"]) (ht : t ∈ tyNames) : kitB t T = some (isiD T t) := by
  have key : ∀ T ∈ ["bool", "int", "str", "tuple", "list", "dict"], ∀ t ∈ tyNames, kitB t T = some (isiD T t) := by decide +kernel
  exact key T hT t ht
section
variable {X : Cx} {cl : Cls_} {E : WX} {a : Expr} {fa : Env → M D} {pos : Pos}
theorem LstAt.tyx {G : Gx} {W : Wd} {H : Hp} {a : Addr} {xs : List V} (h : LstAt G W H a xs) : TyX G.K H (.ref a) (.type "list") := by
  rcases h with ⟨h | ⟨o, h⟩, _⟩ | ⟨o, its, n, h, hc, _⟩
  · exact .base (.lst h)
  · exact .base (.frz h)
  · exact .kList h hc
theorem TupAt.tyx {G : Gx} {W : Wd} {H : Hp} {a : Addr} {xs : List V} (h : TupAt G W H a xs) : TyX G.K H (.ref a) (.type "tuple") := by
  rcases h with ⟨h | ⟨o, h⟩, _⟩ | ⟨o, its, n, h, hc, _⟩
  · exact .base (.tup h)
  · exact .fTuple h
  · exact .kTuple h hc
theorem Rp.tyx {G : Gx} {W : Wd} {H : Hp} {v : V} {d : D} {t : String} (r : Rp G W H v d) (h : tyD d = some t) : TyX G.K H v (.type t) ∧ t ∈ tyNames := by
  cases r with
  | non => cases h; exact ⟨.base .non, by decide⟩
  | bl b => cases h; exact ⟨.base (.bl b), by decide⟩
  | int i => cases h; exact ⟨.base (.int i), by decide⟩
  | str x => cases h; exact ⟨.base (.str x), by decide⟩
  | tup ha _ => cases h; exact ⟨ha.tyx, by decide⟩
  | lst ha _ _ => cases h; exact ⟨.base (.lst ha), by decide⟩
  | dct ha _ _ => cases h; exact ⟨.base (.dK ha), by decide⟩
  | scr ha => cases h; exact ⟨ha.tyx, by decide⟩
  | «mut» _ => cases h
  | ins _ _ _ _ => cases h
theorem de_isi {x : Str} {T : String} {p p2 : Pos} (hT : T ∈ ["bool", "int", "str", "tuple", "list", "dict"]) (hm : X.mg "isinstance" = none) (hm2 : X.mg x = none) (ha : DE X cl E a fa) (hv : bootBuiltins x = some (.type T) := by decide +kernel) (hg : Gl X "isinstance" := by rfl) (hg2 : Gl X x := by rfl)
    (hn : x ≠ "__name__" := by decide) (hdb : (x == ("__debug__" : Str)) = false := by decide)
    (he : starEach (a :: [.Name x p2]) X.env = (false, eval a X.env) :: starEach [.Name x p2] X.env := by rfl) (he2 : starEach (.Name x p2 :: []) X.env = (false, eval (.Name x p2) X.env) :: starEach [] X.env := by rfl) (hpl : (backTo pos (starEach [.Name x p2] X.env)).any (·.1) = false := by rfl) :
    DE X cl E (.Call (.Name "isinstance" p) [a, .Name x p2] [] pos) (c1 (gIsi T) fa) := by
  refine pe_imp (pe_callB call_isi hg hm (by decide +kernel) (pa_cons ha (pa_cons (pe_bltn (v := .ty T) hg2 hm2 hv rfl hn hdb) pa_nil he2) he) (by decide) (by decide) he hpl) fun σ H Q h => ?_
  refine tE_bind h fun W0 H0 W1 H1 S1 ρ own x dx ev rx hh => ?_
  unfold gIsi at hh
  cases q : tyD dx with
  | none => rw [q] at hh; exact hh.elim
  | some t =>
    rw [q] at hh
    obtain ⟨ty, ht⟩ := rx.tyx q
    exact ⟨x, .ty T, .type t, .type T, _, rfl, .ty T, ty, kit_ty (isi_kit T t hT ht), Po.val ev.wk ev.st hh (.bl _)⟩
end
end DN
/-! DN4: what is walked, targets, statements, comprehensions. -/
namespace DN
open PySem PySem.Spec PyProof.Rows L2

/-! ### what is walked -/
structure Wk (G : Gx) (J : It) (ds : List D) (W : Wd) (H : Hp) : Prop where
  go : ∀ W1 H1, Lw W H W1 H1 → WOk W1 H1 → ∀ (i : Nat) (d : D), ds[i]? = some d → J.go i H1 ∧ ∀ x H2, J.yld i H1 x H2 → Same H1 H2 ∧ Rp G W1 H2 x d
  stop : ∀ W1 H1, Lw W H W1 H1 → ∀ i, ds.length ≤ i → J.stop i H1
def tI (G : Gx) (E : WX) (f : Env → M (List D)) : TI := fun σ H R => ∃ W0 H0 W S ρ own, Ev G W0 H0 W H S σ ρ own ∧ Po G E σ W H (f ρ S) (fun ds _ W' H' => ∀ J, Wk G J ds W' H' → R J H')
abbrev DI (X : Cx) (cl : Cls_) (E : WX) (tg e : Expr) (f : Env → M (List D)) : Prop := PI X tg e (tI ⟨X.K, cl⟩ E f)
theorem pi_imp {X : Cx} {tg e : Expr} {t t' : TI} (h : PI X tg e t) (i : ∀ σ H R, t' σ H R → t σ H R) : PI X tg e t' := ⟨fun pins s σ H R I q => h.run pins s σ H R I (i σ H R q)⟩
theorem pi_or {X : Cx} {tg e : Expr} {t u : TI} (h : PI X tg e t) (k : PI X tg e u) : PI X tg e (fun σ H R => t σ H R ∨ u σ H R) :=
  ⟨fun pins s σ H R I q => q.elim (h.run pins s σ H R I) (k.run pins s σ H R I)⟩
def chD (z : Str) : List D := z.cps.toList.map fun c => D.str ⟨#[c]⟩
def itemsD : D → M (List D)
  | .tup xs => M.pure xs
  | .lst xs => M.pure xs
  | .scr ns => M.pure (ns.map D.int)
  | .str z => M.pure (chD z)
  | _ => M.bad
def cIt (fa : Env → M D) : Env → M (List D) := fun ρ => do let d ← fa ρ; itemsD d
theorem TupAt.len {G : Gx} {W : Wd} {H : Hp} {a : Addr} {xs : List V} (_ : TupAt G W H a xs) : True := trivial
section
variable {G : Gx} {W : Wd} {H : Hp} {a : Addr} {vs : List V} {ds : List D}
/-- all readings of one list are alike (by the invariant; here: by what the rule asks) -/
theorem wk_lst (h : H a = some (.lst vs)) (nb : ¬ W.B a) (K : G.K.lookup a = none ∨ True) (r : RpA G W H vs ds) : ∀ W1 H1, Lw W H W1 H1 → H1 a = some (.lst vs) ∧ RpA G W1 H1 vs ds := fun W1 H1 l => ⟨l.kp _ _ h nb, r.mono l⟩
end
/-- the items that a walk over a list yields: those of any reading of it; the one that stands is one -/
theorem yl {K : PySem.W.Frag} {H : Hp} {a : Addr} {vs : List V} {i : Nat} {x y : V} (h : ∀ xs, SqL K H a xs → xs[i]? = some x) (s : SqL K H a vs) (e : vs[i]? = some y) : x = y := by
  have := h vs s
  rw [e] at this; cases this; rfl
theorem ylT {K : PySem.W.Frag} {H : Hp} {a : Addr} {vs : List V} {i : Nat} {x y : V} (h : ∀ xs, SqT K H a xs → xs[i]? = some x) (s : SqT K H a vs) (e : vs[i]? = some y) : x = y := by
  have := h vs s
  rw [e] at this; cases this; rfl
section
variable {X : Cx} {cl : Cls_} {E : WX} {tg e : Expr} {fa fb : Env → M D}
theorem Wk.lst {G : Gx} {W : Wd} {H : Hp} {a : Addr} {vs : List V} {ds : List D} (sq : ∀ W1 H1, Lw W H W1 H1 → SqL G.K H1 a vs) (r : RpA G W H vs ds) : Wk G (Itl G.K a) ds W H := by
  refine ⟨fun W1 H1 l w i d hi => ?_, fun W1 H1 l i hi => ⟨vs, sq W1 H1 l, by rw [r.length]; exact hi⟩⟩
  obtain ⟨v, e1, rv⟩ := r.get hi
  refine ⟨⟨vs, v, sq W1 H1 l, e1⟩, fun x H2 ⟨e2, h2⟩ => ?_⟩
  subst e2
  have e3 := yl h2 (sq W1 _ l) e1
  subst e3
  exact ⟨Same.refl _, rv.mono l⟩
theorem Wk.tup {G : Gx} {W : Wd} {H : Hp} {a : Addr} {vs : List V} {ds : List D} (sq : ∀ W1 H1, Lw W H W1 H1 → SqT G.K H1 a vs) (r : RpA G W H vs ds) : Wk G (Itt G.K a) ds W H := by
  refine ⟨fun W1 H1 l w i d hi => ?_, fun W1 H1 l i hi => ⟨vs, sq W1 H1 l, by rw [r.length]; exact hi⟩⟩
  obtain ⟨v, e1, rv⟩ := r.get hi
  refine ⟨⟨vs, v, sq W1 H1 l, e1⟩, fun x H2 ⟨e2, h2⟩ => ?_⟩
  subst e2
  have e3 := ylT h2 (sq W1 _ l) e1
  subst e3
  exact ⟨Same.refl _, rv.mono l⟩
theorem RpA.ints {G : Gx} {W : Wd} {H : Hp} : ∀ (ns : List Int), RpA G W H (ns.map V.int) (ns.map D.int)
  | [] => .nil
  | n :: ns => .cons (.int n) (RpA.ints ns)
theorem Wk.str {G : Gx} {W : Wd} {H : Hp} (z : Str) : Wk G (Its z) (chD z) W H := by
  refine ⟨fun W1 H1 l w i d hi => ?_, fun W1 H1 l i hi => ?_⟩
  · unfold chD at hi
    rw [List.getElem?_map] at hi
    obtain ⟨c, e1, e2⟩ := Option.map_eq_some_iff.mp hi
    subst e2
    have e3 : z.cps[i]? = some c := by rw [← Array.getElem?_toList]; exact e1
    refine ⟨?_, fun x H2 ⟨e4, c', e5, e6⟩ => ?_⟩
    · show i < z.cps.size
      exact (Array.getElem?_eq_some_iff.mp e3).1
    · subst e4 e6
      rw [e3] at e5; cases e5
      exact ⟨Same.refl _, .str _⟩
  · show z.cps.size ≤ i
    unfold chD at hi
    simpa using hi
theorem di_seq (ha : DE X cl E e fa) : DI X cl E tg e (cIt fa) := by
  refine pi_imp (pi_or (pi_list ha) (pi_or (pi_tup ha) (pi_str ha))) fun σ H R ⟨W0, H0, W, S, ρ, own, ev, h⟩ => ?_
  have h := Po.bind (m := fa ρ) (k := itemsD) ev.wk h
  cases q : fa ρ S with
  | bad => rw [q] at h; exact h.elim
  | exc c fs S1 => exact .inl ⟨W0, H0, W, S, ρ, own, ev, by rw [q] at h ⊢; exact h⟩
  | ok d S1 =>
    cases d with
    | lst xs =>
      refine .inl ⟨W0, H0, W, S, ρ, own, ev, ?_⟩
      rw [q] at h ⊢
      intro W1 H1 l w s v rv
      have hh := h W1 H1 l w s
      cases rv with
      | @lst a vs _ ha nb ra => exact ⟨a, rfl, ⟨vs, SqL.of ha⟩, Po.now w s hh _ (Wk.lst (G := ⟨X.K, cl⟩) (fun W2 H2 l2 => SqL.of (l2.kp _ _ ha nb)) ra)⟩
    | scr ns =>
      refine .inl ⟨W0, H0, W, S, ρ, own, ev, ?_⟩
      rw [q] at h ⊢
      intro W1 H1 l w s v rv
      have hh := h W1 H1 l w s
      cases rv with
      | @scr a _ ha => exact ⟨a, rfl, ⟨_, ha.sq⟩, Po.now w s hh _ (Wk.lst (G := ⟨X.K, cl⟩) (fun W2 H2 l2 => (ha.mono l2).sq) (RpA.ints ns))⟩
    | tup xs =>
      refine .inr (.inl ⟨W0, H0, W, S, ρ, own, ev, ?_⟩)
      rw [q] at h ⊢
      intro W1 H1 l w s v rv
      have hh := h W1 H1 l w s
      cases rv with
      | @tup a vs _ ha ra => exact ⟨a, rfl, ⟨vs, ha.sq⟩, Po.now w s hh _ (Wk.tup (G := ⟨X.K, cl⟩) (fun W2 H2 l2 => (ha.mono l2).sq) ra)⟩
    | str z =>
      refine .inr (.inr ⟨W0, H0, W, S, ρ, own, ev, ?_⟩)
      rw [q] at h ⊢
      intro W1 H1 l w s v rv
      have hh := h W1 H1 l w s
      cases rv
      exact ⟨z, rfl, Po.now w s hh _ (Wk.str z)⟩
    | _ =>
      refine .inl ⟨W0, H0, W, S, ρ, own, ev, ?_⟩
      rw [q] at h ⊢
      intro W1 H1 l w s v rv
      exact (show False from h W1 H1 l w s).elim
/-! ranges -/
def rngD (lo : Int) (n : Nat) : List D := (List.range n).map fun k => D.int (lo + (k : Nat))
theorem Wk.rng {G : Gx} {W : Wd} {H : Hp} (lo : Int) (n : Nat) : Wk G (Itr lo n) (rngD lo n) W H := by
  refine ⟨fun W1 H1 l w i d hi => ?_, fun W1 H1 l i hi => ?_⟩
  · unfold rngD at hi
    rw [List.getElem?_map] at hi
    obtain ⟨c, e1, e2⟩ := Option.map_eq_some_iff.mp hi
    subst e2
    obtain ⟨h1, h2⟩ := List.getElem?_eq_some_iff.mp e1
    rw [List.getElem_range] at h2
    subst h2
    refine ⟨?_, fun x H2 ⟨e4, e5⟩ => ?_⟩
    · show i < n
      simpa using h1
    · subst e4 e5
      exact ⟨Same.refl _, .int _⟩
  · show n ≤ i
    unfold rngD at hi
    simpa using hi
def rng1 : D → M (List D)
  | .int j => if -(2 ^ 62) ≤ j ∧ j < 2 ^ 62 then M.pure (rngD 0 j.toNat) else M.bad
  | _ => M.bad
def rng2 : D → D → M (List D)
  | .int i, .int j => if -(2 ^ 62) ≤ i ∧ i < 2 ^ 62 ∧ -(2 ^ 62) ≤ j ∧ j < 2 ^ 62 then M.pure (rngD i (j - i).toNat) else M.bad
  | _, _ => M.bad
def cRng1 (fa : Env → M D) : Env → M (List D) := fun ρ => do let d ← fa ρ; rng1 d
def cRng2 (fa fb : Env → M D) : Env → M (List D) := fun ρ => do let x ← fa ρ; let y ← fb ρ; rng2 x y
theorem tI_bind {G : Gx} {E : WX} {fa : Env → M D} {k : Env → D → M (List D)} {σ : L2.St} {H : Hp} {Q : It → Hp → Prop} {R : V → Hp → Prop} (h : tI G E (fun ρ => fa ρ >>= k ρ) σ H Q)
    (hk : ∀ W0 H0 W1 H1 S1 ρ own v d, Ev G W0 H0 W1 H1 S1 σ ρ own → Rp G W1 H1 v d → Po G E σ W1 H1 (k ρ d S1) (fun ds _ W' H' => ∀ J, Wk G J ds W' H' → Q J H') → R v H1) : tE G E fa σ H R := by
  obtain ⟨W0, H0, W, S, ρ, own, ev, h⟩ := h
  exact ⟨W0, H0, W, S, ρ, own, ev, (Po.bind ev.wk h).imp fun d S1 W1 H1 l w s hh v rv => hk W0 H0 W1 H1 S1 ρ own v d (ev.mono l w s) rv hh⟩
theorem di_rng1 {p pos : Pos} (hm : X.mg "range" = none) (ha : DE X cl E e fa) (hg : Gl X "range" := by rfl) (hs : starEach [e] X.env = [(false, eval e X.env)] := by rfl) : DI X cl E tg (.Call (.Name "range" p) [e] [] pos) (cRng1 fa) := by
  refine pi_imp (pi_range1 hg hm (pa_cons ha pa_nil hs) hs) fun σ H R h => ?_
  refine tI_bind h fun W0 H0 W1 H1 S1 ρ own v d ev rv hh => ?_
  cases d with
  | int j =>
    cases rv
    obtain ⟨c, hh⟩ := po_if hh
    exact ⟨j, rfl, c.1, c.2, Po.now ev.wk ev.st hh _ (Wk.rng 0 _)⟩
  | _ => exact (po_bad hh).elim
theorem di_rng2 {e2 : Expr} {p pos : Pos} (hm : X.mg "range" = none) (ha : DE X cl E e fa) (hb : DE X cl E e2 fb) (hg : Gl X "range" := by rfl) (hs : starEach [e, e2] X.env = [(false, eval e X.env), (false, eval e2 X.env)] := by rfl) (hs2 : starEach [e2] X.env = [(false, eval e2 X.env)] := by rfl) :
    DI X cl E tg (.Call (.Name "range" p) [e, e2] [] pos) (cRng2 fa fb) := by
  refine pi_imp (pi_range2 hg hm (pa_cons ha (pa_cons hb pa_nil hs2) (by rw [hs, hs2])) hs hs2) fun σ H R h => ?_
  refine tI_bind h fun W0 H0 W1 H1 S1 ρ own v d ev rv hh => ?_
  refine ⟨W0, H0, W1, S1, ρ, own, ev, (Po.bind ev.wk hh).imp fun d2 S2 W2 H2 l w s h2 v2 rv2 => ?_⟩
  cases d with
  | int i =>
    cases d2 with
    | int j =>
      cases rv; cases rv2
      obtain ⟨c, h2⟩ := po_if h2
      exact ⟨i, j, rfl, c, Po.now w s h2 _ (Wk.rng i _)⟩
    | _ => exact (po_bad h2).elim
  | _ => exact (po_bad h2).elim
/-! zip, enumerate -/
def zipD : List D → List D → List D
  | x :: xs, y :: ys => .tup [x, y] :: zipD xs ys
  | _, _ => []
def enumD (k : Nat) : List D → List D
  | [] => []
  | x :: xs => .tup [.int (k : Nat), x] :: enumD (k + 1) xs
theorem zipD_get : ∀ {xs ys : List D} {i : Nat} {d : D}, (zipD xs ys)[i]? = some d → ∃ x y, xs[i]? = some x ∧ ys[i]? = some y ∧ d = .tup [x, y]
  | [], _, _, _, h => by simp [zipD] at h
  | _ :: _, [], _, _, h => by simp [zipD] at h
  | x :: xs, y :: ys, 0, d, h => by simp [zipD] at h; exact ⟨x, y, rfl, rfl, h.symm⟩
  | x :: xs, y :: ys, i + 1, d, h => by
    obtain ⟨a, b, h1, h2, h3⟩ := zipD_get (xs := xs) (ys := ys) (i := i) (d := d) (by simpa [zipD] using h)
    exact ⟨a, b, by simpa using h1, by simpa using h2, h3⟩
theorem zipD_len : ∀ (xs ys : List D), (zipD xs ys).length = min xs.length ys.length
  | [], ys => by simp [zipD]
  | _ :: _, [] => by simp [zipD]
  | x :: xs, y :: ys => by simp only [zipD, List.length_cons, zipD_len xs ys]; omega
theorem enumD_get : ∀ {xs : List D} {k i : Nat} {d : D}, (enumD k xs)[i]? = some d → ∃ x, xs[i]? = some x ∧ d = .tup [.int ((k + i : Nat) : Int), x]
  | [], _, _, _, h => by simp [enumD] at h
  | x :: xs, k, 0, d, h => by simp [enumD] at h; exact ⟨x, rfl, h.symm⟩
  | x :: xs, k, i + 1, d, h => by
    obtain ⟨a, h1, h2⟩ := enumD_get (xs := xs) (k := k + 1) (i := i) (d := d) (by simpa [enumD] using h)
    exact ⟨a, by simpa using h1, by rw [h2, show k + 1 + i = k + (i + 1) by omega]⟩
theorem enumD_len : ∀ (xs : List D) (k : Nat), (enumD k xs).length = xs.length
  | [], _ => rfl
  | _ :: xs, k => by simp only [enumD, List.length_cons, enumD_len xs (k + 1)]
theorem new_pair {G : Gx} {W : Wd} {H : Hp} {T : Addr} {x y : V} {a b : D} (w : WOk W H) (hT : H T = none) (ra : Rp G W H x a) (rb : Rp G W H y b) : Same H (upd H T (.tup [x, y])) ∧ Rp G W (upd H T (.tup [x, y])) (.ref T) (.tup [a, b]) :=
  ⟨Same.new hT, Rp.newTup w hT (.cons ra (.cons rb .nil))⟩
theorem Wk.zipL {G : Gx} {W : Wd} {H : Hp} {a b : Addr} {vs us : List V} {ds es : List D} (sq : ∀ W1 H1, Lw W H W1 H1 → SqL G.K H1 a vs) (sr : ∀ W1 H1, Lw W H W1 H1 → SqL G.K H1 b us) (r : RpA G W H vs ds) (q : RpA G W H us es) : Wk G (Itz G.K a b) (zipD ds es) W H := by
  refine ⟨fun W1 H1 l w i d hi => ?_, fun W1 H1 l i hi => ?_⟩
  · obtain ⟨x, y, h1, h2, e⟩ := zipD_get hi
    subst e
    obtain ⟨v, e1, rv⟩ := r.get h1
    obtain ⟨u, e2, ru⟩ := q.get h2
    refine ⟨⟨vs, us, v, u, sq W1 H1 l, sr W1 H1 l, e1, e2⟩, fun z H2 ⟨T, v', u', ez, hT, eH, hv, hu⟩ => ?_⟩
    subst ez eH
    have e3 := yl hv (sq W1 _ l) e1
    have e4 := yl hu (sr W1 _ l) e2
    subst e3 e4
    exact new_pair w hT (rv.mono l) (ru.mono l)
  · rw [zipD_len] at hi
    refine ⟨vs, us, sq W1 H1 l, sr W1 H1 l, ?_⟩
    rw [r.length, q.length]
    omega
theorem Wk.zipT {G : Gx} {W : Wd} {H : Hp} {a b : Addr} {vs us : List V} {ds es : List D} (sq : ∀ W1 H1, Lw W H W1 H1 → SqT G.K H1 a vs) (sr : ∀ W1 H1, Lw W H W1 H1 → SqT G.K H1 b us) (r : RpA G W H vs ds) (q : RpA G W H us es) : Wk G (RZ.ItzT G.K a b) (zipD ds es) W H := by
  refine ⟨fun W1 H1 l w i d hi => ?_, fun W1 H1 l i hi => ?_⟩
  · obtain ⟨x, y, h1, h2, e⟩ := zipD_get hi
    subst e
    obtain ⟨v, e1, rv⟩ := r.get h1
    obtain ⟨u, e2, ru⟩ := q.get h2
    refine ⟨⟨vs, us, v, u, sq W1 H1 l, sr W1 H1 l, e1, e2⟩, fun z H2 ⟨T, v', u', ez, hT, eH, hv, hu⟩ => ?_⟩
    subst ez eH
    have e3 := ylT hv (sq W1 _ l) e1
    have e4 := ylT hu (sr W1 _ l) e2
    subst e3 e4
    exact new_pair w hT (rv.mono l) (ru.mono l)
  · rw [zipD_len] at hi
    refine ⟨vs, us, sq W1 H1 l, sr W1 H1 l, ?_⟩
    rw [r.length, q.length]
    omega
theorem Wk.enumL {G : Gx} {W : Wd} {H : Hp} {a : Addr} {vs : List V} {ds : List D} (sq : ∀ W1 H1, Lw W H W1 H1 → SqL G.K H1 a vs) (r : RpA G W H vs ds) : Wk G (Ite G.K a) (enumD 0 ds) W H := by
  refine ⟨fun W1 H1 l w i d hi => ?_, fun W1 H1 l i hi => ⟨vs, sq W1 H1 l, by rw [enumD_len] at hi; rw [r.length]; exact hi⟩⟩
  obtain ⟨x, h1, e⟩ := enumD_get hi
  subst e
  obtain ⟨v, e1, rv⟩ := r.get h1
  refine ⟨⟨vs, v, sq W1 H1 l, e1⟩, fun z H2 ⟨T, v', ez, hT, eH, hv⟩ => ?_⟩
  subst ez eH
  have e3 := yl hv (sq W1 _ l) e1
  subst e3
  rw [Nat.zero_add]
  exact new_pair w hT (.int _) (rv.mono l)
def gZip : D → D → M (List D)
  | .lst xs, .lst ys => M.pure (zipD xs ys)
  | .tup xs, .tup ys => M.pure (zipD xs ys)
  | _, _ => M.bad
def cZip (fa fb : Env → M D) : Env → M (List D) := fun ρ => do let x ← fa ρ; let y ← fb ρ; gZip x y
theorem di_zip {e2 : Expr} {elts : List Expr} {kk : Nat} {p pos tpos : Pos} (hm : X.mg "zip" = none) (ha : DE X cl E e fa) (hb : DE X cl E e2 fb) (hg : Gl X "zip" := by rfl) (hs : starEach [e, e2] X.env = (false, eval e X.env) :: starEach [e2] X.env := by rfl) (hs2 : starEach [e2] X.env = (false, eval e2 X.env) :: starEach [] X.env := by rfl) (hpl : (backTo pos (starEach [e2] X.env)).any (·.1) = false := by rfl) :
    DI X cl E (.Tuple elts kk tpos) (.Call (.Name "zip" p) [e, e2] [] pos) (cZip fa fb) := by
  refine pi_imp (RZ.pi_zipA hg hm (pa_cons ha (pa_cons hb pa_nil hs2) hs) hs hpl) fun σ H R h => ?_
  refine tI_bind h fun W0 H0 W1 H1 S1 ρ own v d ev rv hh => ?_
  refine ⟨W0, H0, W1, S1, ρ, own, ev, (Po.bind ev.wk hh).imp fun d2 S2 W2 H2 l w s h2 v2 rv2 => ?_⟩
  have rv1 := rv.mono (l.lw ev.wk)
  cases d with
  | lst xs =>
    cases d2 with
    | lst ys =>
      cases rv1 with
      | @lst a vs _ h1 nb r1 =>
        cases rv2 with
        | @lst b us _ h3 nb2 r2 =>
          exact ⟨a, b, vs, us, rfl, .inl ⟨SqL.of h1, SqL.of h3, Po.now w s h2 _ (Wk.zipL (G := ⟨X.K, cl⟩) (fun _ _ k => SqL.of (k.kp _ _ h1 nb)) (fun _ _ k => SqL.of (k.kp _ _ h3 nb2)) r1 r2)⟩⟩
    | _ => exact (po_bad h2).elim
  | tup xs =>
    cases d2 with
    | tup ys =>
      cases rv1 with
      | @tup a vs _ h1 r1 =>
        cases rv2 with
        | @tup b us _ h3 r2 =>
          exact ⟨a, b, vs, us, rfl, .inr ⟨h1.sq, h3.sq, Po.now w s h2 _ (Wk.zipT (G := ⟨X.K, cl⟩) (fun _ _ k => (h1.mono k).sq) (fun _ _ k => (h3.mono k).sq) r1 r2)⟩⟩
    | _ => exact (po_bad h2).elim
  | _ => exact (po_bad h2).elim
def gEnum : D → M (List D)
  | .lst xs => M.pure (enumD 0 xs)
  | _ => M.bad
def cEnum (fa : Env → M D) : Env → M (List D) := fun ρ => do let x ← fa ρ; gEnum x
theorem di_enum {elts : List Expr} {kk : Nat} {p pos tpos : Pos} (hm : X.mg "enumerate" = none) (ha : DE X cl E e fa) (hg : Gl X "enumerate" := by rfl) (hs : starEach [e] X.env = [(false, eval e X.env)] := by rfl) :
    DI X cl E (.Tuple elts kk tpos) (.Call (.Name "enumerate" p) [e] [] pos) (cEnum fa) := by
  refine pi_imp (pi_enum hg hm (pa_cons ha pa_nil hs) hs) fun σ H R h => ?_
  refine tI_bind h fun W0 H0 W1 H1 S1 ρ own v d ev rv hh => ?_
  cases d with
  | lst xs =>
    cases rv with
    | @lst a vs _ h1 nb r1 => exact ⟨a, vs, rfl, SqL.of h1, Po.now ev.wk ev.st hh _ (Wk.enumL (G := ⟨X.K, cl⟩) (fun _ _ k => SqL.of (k.kp _ _ h1 nb)) r1)⟩
  | _ => exact (po_bad hh).elim
end

/-! ### targets -/
abbrev Bd := D → Env → Option Env
def bName (i : Nat) : Bd := fun d ρ => some (ρ.set i (.val d))
def bAll : List Bd → List D → Env → Option Env
  | [], [], ρ => some ρ
  | b :: bs, x :: xs, ρ => match b x ρ with
    | some ρ' => bAll bs xs ρ'
    | none => none
  | _, _, _ => none
def bTup (bs : List Bd) : Bd := fun d ρ => match d with
  | .tup xs => bAll bs xs ρ
  | .lst xs => bAll bs xs ρ
  | _ => none
theorem Ev.set {G : Gx} {W0 W : Wd} {H0 H : Hp} {S : Store} {σ : L2.St} {ρ : Env} {own : Nat → Option Addr} {i : Nat} {v : V} {d : D} (e : Ev G W0 H0 W H S σ ρ own) (r : Rp G W H v d) :
    Ev G W0 H0 W H S (σ.set i (some v)) (ρ.set i (.val d)) (fun j => if j = i then none else own j) := by
  refine ⟨e.w0, e.wk, e.le, e.st, by simp [e.len], fun j d' h => ?_, fun j ds h => ?_, fun j a h => ?_, fun j k a h1 h2 => ?_⟩
  · by_cases hj : j = i
    · subst hj
      have hl : j < ρ.length := by
        have := (List.getElem?_eq_some_iff.mp h).1
        simpa using this
      rw [List.getElem?_set_self hl] at h
      cases h
      exact ⟨v, List.getElem?_set_self (by rw [e.len]; exact hl), r⟩
    · rw [List.getElem?_set_ne (Ne.symm hj)] at h
      obtain ⟨u, h1, h2⟩ := e.sl j d' h
      exact ⟨u, by rw [List.getElem?_set_ne (Ne.symm hj)]; exact h1, h2⟩
  · by_cases hj : j = i
    · subst hj
      have hl : j < ρ.length := by
        have := (List.getElem?_eq_some_iff.mp h).1
        simpa using this
      rw [List.getElem?_set_self hl] at h
      cases h
    · rw [List.getElem?_set_ne (Ne.symm hj)] at h
      obtain ⟨a, vs, h1, h2, h3, h4⟩ := e.so j ds h
      exact ⟨a, vs, by show (if j = i then none else own j) = some a; rw [if_neg hj]; exact h1, by rw [List.getElem?_set_ne (Ne.symm hj)]; exact h2, h3, h4⟩
  · have h : (if j = i then none else own j) = some a := h
    by_cases hj : j = i
    · rw [if_pos hj] at h; cases h
    · rw [if_neg hj] at h; exact e.oB j a h
  · have h1 : (if j = i then none else own j) = some a := h1
    have h2 : (if k = i then none else own k) = some a := h2
    by_cases hj : j = i
    · rw [if_pos hj] at h1; cases h1
    · by_cases hk : k = i
      · rw [if_pos hk] at h2; cases h2
      · rw [if_neg hj] at h1; rw [if_neg hk] at h2; exact e.oi j k a h1 h2
/-- the slots but those of ws are as they were -/
def Out (ws : List Nat) (σ σ' : L2.St) : Prop := σ'.length = σ.length ∧ ∀ i, i ∉ ws → σ'[i]? = σ[i]?
theorem Out.refl (ws : List Nat) (σ : L2.St) : Out ws σ σ := ⟨rfl, fun _ _ => rfl⟩
theorem Out.trans {ws us : List Nat} {σ σ1 σ2 : L2.St} (a : Out ws σ σ1) (b : Out us σ1 σ2) : Out (ws ++ us) σ σ2 :=
  ⟨b.1.trans a.1, fun i h => by rw [List.mem_append, not_or] at h; rw [b.2 i h.2, a.2 i h.1]⟩
theorem Out.one {σ : L2.St} {i : Nat} {v : Option V} : Out [i] σ (σ.set i v) := ⟨List.length_set, fun j h => List.getElem?_set_ne (fun e => h (by rw [e]; exact List.mem_singleton_self _))⟩
def tG (G : Gx) (b : Bd) (ws : List Nat) : TG := fun v σ H Q => ∃ W0 H0 W S ρ own d ρ', Ev G W0 H0 W H S σ ρ own ∧ Rp G W H v d ∧ b d ρ = some ρ' ∧ ∀ σ' own', Out ws σ σ' → Ev G W0 H0 W H S σ' ρ' own' → Q σ' H
def tGs (G : Gx) (bs : List Bd) (ws : List Nat) : TGs := fun vs σ H Q => ∃ W0 H0 W S ρ own ds ρ', Ev G W0 H0 W H S σ ρ own ∧ RpA G W H vs ds ∧ bAll bs ds ρ = some ρ' ∧ ∀ σ' own', Out ws σ σ' → Ev G W0 H0 W H S σ' ρ' own' → Q σ' H
abbrev DG (X : Cx) (cl : Cls_) (e : Expr) (b : Bd) (ws : List Nat) : Prop := PG X e (tG ⟨X.K, cl⟩ b ws)
abbrev DGs (X : Cx) (cl : Cls_) (es : List Expr) (bs : List Bd) (ws : List Nat) : Prop := PGs X es (tGs ⟨X.K, cl⟩ bs ws)
theorem pg_imp {X : Cx} {e : Expr} {t t' : TG} (h : PG X e t) (i : ∀ v σ H Q, t' v σ H Q → t v σ H Q) : PG X e t' := ⟨fun pins s σ H v u Q I r q => h.run pins s σ H v u Q I r (i v σ H Q q)⟩
theorem pgs_imp {X : Cx} {e : List Expr} {t t' : TGs} (h : PGs X e t) (i : ∀ v σ H Q, t' v σ H Q → t v σ H Q) : PGs X e t' := ⟨fun pins s σ H v u Q I r q => h.run pins s σ H v u Q I r (i v σ H Q q)⟩
section
variable {X : Cx} {cl : Cls_} {pos : Pos}
theorem dg_name {i : Nat} {x : Str} (hN : X.N.Nodup) (hi : X.N[i]? = some x := by rfl) (hx : Loc X.env.scope x := by first | exact Or.inl rfl | exact Or.inr rfl) (hf : X.fn x = true ∨ X.env.scope.names.lookup x = some .local := by first | exact .inl rfl | exact .inr rfl) : DG X cl (.Name x pos) (bName i) [i] :=
  pg_imp (pg_name hN hi hx hf) fun v σ H Q ⟨W0, H0, W, S, ρ, own, d, ρ', ev, r, e, h⟩ => by cases e; exact h _ _ Out.one (ev.set r)
theorem dgs_nil : DGs X cl [] [] [] := pgs_imp pgs_nil fun vs σ H Q ⟨W0, H0, W, S, ρ, own, ds, ρ', ev, r, e, h⟩ => by
  cases r with
  | nil => cases e; exact ⟨rfl, h _ _ (Out.refl _ _) ev⟩
  | cons _ _ => cases e
theorem dgs_cons {e : Expr} {es : List Expr} {b : Bd} {bs : List Bd} {ws us : List Nat} (h1 : DG X cl e b ws) (h2 : DGs X cl es bs us) (hs : (assignEach (e :: es) X.env).map (·.2) = assign e X.env :: (assignEach es X.env).map (·.2) := by rfl) : DGs X cl (e :: es) (b :: bs) (ws ++ us) := by
  refine pgs_imp (pgs_cons h1 h2 hs) fun vs σ H Q ⟨W0, H0, W, S, ρ, own, ds, ρ', ev, r, e, h⟩ => ?_
  cases r with
  | nil => cases e
  | @cons v vs d ds rv rvs =>
    refine ⟨v, vs, rfl, ?_⟩
    unfold bAll at e
    cases q : b d ρ with
    | none => rw [q] at e; cases e
    | some ρ1 =>
      rw [q] at e
      exact ⟨W0, H0, W, S, ρ, own, d, ρ1, ev, rv, q, fun σ1 own1 o1 ev1 => ⟨W0, H0, W, S, ρ1, own1, ds, ρ', ev1, rvs, e, fun σ2 own2 o2 ev2 => h σ2 own2 (o1.trans o2) ev2⟩⟩
theorem bAll_len : ∀ {bs : List Bd} {ds : List D} {ρ ρ' : Env}, bAll bs ds ρ = some ρ' → ds.length = bs.length
  | [], [], _, _, _ => rfl
  | b :: bs, x :: xs, ρ, ρ', h => by
    unfold bAll at h
    cases q : b x ρ with
    | none => rw [q] at h; cases h
    | some ρ1 =>
      rw [q] at h
      rw [List.length_cons, List.length_cons, bAll_len h]
  | [], _ :: _, _, _, h => by simp [bAll] at h
  | _ :: _, [], _, _, h => by simp [bAll] at h
theorem pg_or {e : Expr} {t u : TG} (h1 : PG X e t) (h2 : PG X e u) : PG X e (fun v σ H Q => t v σ H Q ∨ u v σ H Q) := ⟨fun pins s σ H v w Q I r q => q.elim (h1.run pins s σ H v w Q I r) (h2.run pins s σ H v w Q I r)⟩
theorem dg_tup {es : List Expr} {k : Nat} {bs : List Bd} {ws : List Nat} (hc : X.calm = true) (h : DGs X cl es bs ws) (hn : (assignEach es X.env).length = bs.length := by rfl) (hst : (assignEach es X.env).findIdx? (·.1) = none := by rfl) : DG X cl (.Tuple es k pos) (bTup bs) ws := by
  refine pg_imp (pg_or (pg_tup (n := bs.length) hc h hn hst) (pg_lst (n := bs.length) hc h hn hst)) fun v σ H Q ⟨W0, H0, W, S, ρ, own, d, ρ', ev, r, e, h⟩ => ?_
  cases d with
  | tup xs =>
    cases r with
    | @tup a vs _ ha ra => exact .inl ⟨a, vs, rfl, ha.sq, by rw [ra.length]; exact bAll_len e, W0, H0, W, S, ρ, own, xs, ρ', ev, ra, e, h⟩
  | lst xs =>
    cases r with
    | @lst a vs _ ha _ ra => exact .inr ⟨a, vs, rfl, .inl (.inl ha), by rw [ra.length]; exact bAll_len e, W0, H0, W, S, ρ, own, xs, ρ', ev, ra, e, h⟩
  | _ => cases e
end
end DN
/-! DN5: comprehensions, statements, defs. -/
namespace DN
open PySem PySem.Spec PyProof.Rows L2

/-! ### comprehensions -/
abbrev E0_ : WX := fun _ _ _ _ => False
def noX {α : Type} (m : M α) : M α := fun S => match m S with
  | .exc _ _ _ => .bad
  | r => r
theorem po_noX {G : Gx} {E : WX} {σ σ' : L2.St} {W : Wd} {H : Hp} {α : Type} {m : M α} {S : Store} {R : α → Store → Wd → Hp → Prop} (h : Po G E σ W H (noX m S) R) : Po G E0_ σ' W H (m S) R := by
  unfold noX at h
  cases q : m S with
  | ok a S' => rw [q] at h; exact h
  | exc c fs S' => rw [q] at h; exact h.elim
  | bad => rw [q] at h; exact h
def wipeE (ρ : Env) : List Nat → Env
  | [] => ρ
  | i :: is => (wipeE ρ is).set i .un
def compL (b : Bd) (t : Env → M Bool) (f : Env → M D) (ρ : Env) : List D → M (List D)
  | [] => M.pure []
  | d :: ds => match b d ρ with
    | none => M.bad
    | some ρ' => do
      let k ← t ρ'
      if k then (do
        let y ← f ρ'
        let ys ← compL b t f ρ ds
        M.pure (y :: ys))
      else compL b t f ρ ds
def cComp (fi : Env → M (List D)) (b : Bd) (t : Env → M Bool) (f : Env → M D) (vs : List Nat) : Env → M D := fun ρ => do
  let ds ← fi ρ
  if ds.length ≤ 16777216 then (do
    let ys ← noX (compL b t f (wipeE ρ vs) ds)
    M.pure (.lst ys))
  else M.bad
def cYes : Env → M Bool := fun _ => M.pure true
theorem Ev.unset {G : Gx} {W0 W : Wd} {H0 H : Hp} {S : Store} {σ : L2.St} {ρ : Env} {own : Nat → Option Addr} {i : Nat} (e : Ev G W0 H0 W H S σ ρ own) :
    Ev G W0 H0 W H S (σ.set i none) (ρ.set i .un) (fun j => if j = i then none else own j) := by
  have at_ : ∀ {j : Nat} {x : Sl}, (ρ.set i .un)[j]? = some x → x ≠ .un → j ≠ i ∧ ρ[j]? = some x := fun {j x} h hx => by
    by_cases hj : j = i
    · subst hj
      have hl : j < ρ.length := by
        have := (List.getElem?_eq_some_iff.mp h).1
        simpa using this
      rw [List.getElem?_set_self hl] at h
      cases h; exact absurd rfl hx
    · rw [List.getElem?_set_ne (Ne.symm hj)] at h
      exact ⟨hj, h⟩
  refine ⟨e.w0, e.wk, e.le, e.st, by simp [e.len], fun j d h => ?_, fun j ds h => ?_, fun j a h => ?_, fun j k a h1 h2 => ?_⟩
  · obtain ⟨hj, h⟩ := at_ h (by intro q; cases q)
    obtain ⟨v, h1, h2⟩ := e.sl j d h
    exact ⟨v, by rw [List.getElem?_set_ne (Ne.symm hj)]; exact h1, h2⟩
  · obtain ⟨hj, h⟩ := at_ h (by intro q; cases q)
    obtain ⟨a, vs, h1, h2, h3, h4⟩ := e.so j ds h
    exact ⟨a, vs, by show (if j = i then none else own j) = some a; rw [if_neg hj]; exact h1, by rw [List.getElem?_set_ne (Ne.symm hj)]; exact h2, h3, h4⟩
  · have h : (if j = i then none else own j) = some a := h
    by_cases hj : j = i
    · rw [if_pos hj] at h; cases h
    · rw [if_neg hj] at h; exact e.oB j a h
  · have h1 : (if j = i then none else own j) = some a := h1
    have h2 : (if k = i then none else own k) = some a := h2
    by_cases hj : j = i
    · rw [if_pos hj] at h1; cases h1
    · by_cases hk : k = i
      · rw [if_pos hk] at h2; cases h2
      · rw [if_neg hj] at h1; rw [if_neg hk] at h2; exact e.oi j k a h1 h2
theorem Ev.wiped {G : Gx} {W0 W : Wd} {H0 H : Hp} {S : Store} {σ : L2.St} {ρ : Env} {own : Nat → Option Addr} (e : Ev G W0 H0 W H S σ ρ own) : ∀ vs : List Nat, ∃ own', Ev G W0 H0 W H S (wipe σ vs) (wipeE ρ vs) own'
  | [] => ⟨own, e⟩
  | i :: is => let ⟨o, e'⟩ := e.wiped is; ⟨_, e'.unset⟩
theorem wipe_same {σ σ' : L2.St} {ws vs : List Nat} (o : Out ws σ σ') (h : ∀ i ∈ ws, i ∈ vs) : wipe σ' vs = wipe σ vs := by
  refine List.ext_getElem? fun i => ?_
  have key : ∀ (τ : L2.St) (us : List Nat), i ∈ us → (wipe τ us)[i]? = if i < τ.length then some none else none := fun τ us => by
    induction us with
    | nil => intro h; cases h
    | cons u us ih =>
      intro h
      show ((wipe τ us).set u none)[i]? = _
      by_cases e : u = i
      · subst e
        by_cases hl : u < τ.length
        · rw [if_pos hl, List.getElem?_set_self (by rw [wipe_length]; exact hl)]
        · rw [if_neg hl]
          exact List.getElem?_eq_none (by rw [List.length_set, wipe_length]; omega)
      · rw [List.getElem?_set_ne e]
        rcases List.mem_cons.mp h with z | z
        · exact absurd z.symm e
        · exact ih z
  by_cases hi : i ∈ vs
  · rw [key σ' vs hi, key σ vs hi, o.1]
  · rw [wipe_out hi, wipe_out hi]
    exact o.2 i fun z => hi (h i z)
/-- an object of one's own is changed -/
theorem Ev.poke {G : Gx} {W0 W : Wd} {H0 H : Hp} {S : Store} {σ : L2.St} {ρ : Env} {own : Nat → Option Addr} {p : Addr} {o : HO} (e : Ev G W0 H0 W H S σ ρ own) (hB : W.B p) (h0 : H0 p = none) (hn : ∀ n, W.phi n ≠ some p) (ho : ∀ i, own i ≠ some p) :
    Ev G W0 H0 W (upd H p o) S σ ρ own := by
  have lw : Lw W H W (upd H p o) := ⟨fun _ _ h => h, fun _ h => .inl h, fun b u h nb => by rw [upd_ne (fun z => nb (by rw [z]; exact hB))]; exact h⟩
  refine ⟨e.w0, ⟨fun a h => ?_, e.wk.rg, e.wk.ij⟩, ⟨e.le.ph, e.le.ps, e.le.Bm, e.le.Bn, fun b u h => ?_⟩, ⟨fun n c h => ?_, e.st.top⟩, e.len, fun i d h => ?_, fun i ds h => ?_, e.oB, e.oi⟩
  · by_cases z : a = p
    · exact ⟨o, by rw [z, upd_same]⟩
    · obtain ⟨u, q⟩ := e.wk.tr a h
      exact ⟨u, by rw [upd_ne z]; exact q⟩
  · rcases e.le.kp b u h with z | z
    · exact .inl z
    · refine .inr ?_
      rw [upd_ne (fun q => by rw [q, h0] at h; cases h)]
      exact z
  · obtain ⟨a, h1, h2⟩ := e.st.at_ n c h
    exact ⟨a, h1, h2.same lw fun u q => by rw [upd_ne (fun z => hn n (by rw [← z]; exact h1))]; exact q⟩
  · obtain ⟨v, h1, h2⟩ := e.sl i d h
    exact ⟨v, h1, h2.mono lw⟩
  · obtain ⟨a, vs, h1, h2, h3, h4⟩ := e.so i ds h
    exact ⟨a, vs, h1, h2, by rw [upd_ne (fun z => ho i (by rw [← z]; exact h1))]; exact h3, h4.mono lw⟩
/-- a new object is busy from now on -/
def Wd.add (W : Wd) (p : Addr) : Wd := ⟨W.phi, fun a => W.B a ∨ a = p⟩
def Wd.del (W : Wd) (p : Addr) : Wd := ⟨W.phi, fun a => W.B a ∧ a ≠ p⟩
theorem le_add {W : Wd} {H : Hp} {p : Addr} {o : HO} (hp : H p = none) : Le W H (W.add p) (upd H p o) :=
  ⟨fun _ _ h => h, fun _ _ h => .inl h, fun _ h => .inl h, fun a h => h.elim .inl fun z => .inr (by rw [z]; exact hp), fun b u h => .inr (Same.new hp b u h)⟩
theorem ok_add {W : Wd} {H : Hp} {p : Addr} {o : HO} (w : WOk W H) (hp : H p = none) : WOk (W.add p) (upd H p o) := by
  refine ⟨fun a h => ?_, fun n a h => .inl (w.rg n a h), w.ij⟩
  rcases h with h | h
  · obtain ⟨u, q⟩ := w.tr a h
    exact ⟨u, Same.new hp a u q⟩
  · exact ⟨o, by rw [h, upd_same]⟩
theorem st_add {G : Gx} {W : Wd} {H : Hp} {S : Store} {p : Addr} {o : HO} (w : WOk W H) (s : StOk G W H S) (hp : H p = none) : StOk G (W.add p) (upd H p o) S :=
  ⟨fun n c h => let ⟨a, h1, h2⟩ := s.at_ n c h; ⟨a, h1, h2.same ((le_add hp).lw w) fun u q => Same.new hp a u q⟩, s.top⟩
section
variable {X : Cx} {cl : Cls_} {E : WX}
theorem compL_ok {b : Bd} {t : Env → M Bool} {f : Env → M D} {ρ : Env} {d : D} {ds : List D} {S S2 : Store} {ys : List D} (h : compL b t f ρ (d :: ds) S = .ok ys S2) :
    ∃ ρ' k Sk, b d ρ = some ρ' ∧ t ρ' S = .ok k Sk ∧ (k = true → ∃ y Sy zs, f ρ' Sk = .ok y Sy ∧ compL b t f ρ ds Sy = .ok zs S2 ∧ ys = y :: zs) ∧ (k = false → compL b t f ρ ds Sk = .ok ys S2) := by
  unfold compL at h
  cases q : b d ρ with
  | none => rw [q] at h; cases h
  | some ρ' =>
    rw [q] at h
    dsimp only at h
    rw [bind_run] at h
    cases q2 : t ρ' S with
    | bad => rw [q2] at h; cases h
    | exc c fs S' => rw [q2] at h; cases h
    | ok k Sk =>
      rw [q2] at h
      dsimp only at h
      refine ⟨ρ', k, Sk, rfl, q2, fun e => ?_, fun e => ?_⟩
      · subst e
        rw [if_pos rfl, bind_run] at h
        cases q3 : f ρ' Sk with
        | bad => rw [q3] at h; cases h
        | exc c fs S' => rw [q3] at h; cases h
        | ok y Sy =>
          rw [q3] at h
          dsimp only at h
          rw [bind_run] at h
          cases q4 : compL b t f ρ ds Sy with
          | bad => rw [q4] at h; cases h
          | exc c fs S' => rw [q4] at h; cases h
          | ok zs Sz =>
            rw [q4] at h
            have h : Res.ok (y :: zs) Sz = Res.ok ys S2 := h
            injection h with h1 h2
            subst h1 h2
            exact ⟨y, Sy, zs, rfl, q4, rfl⟩
      · subst e
        rw [if_neg Bool.false_ne_true] at h
        exact h
theorem tLc_of {G : Gx} {fi : Env → M (List D)} {b : Bd} {t : Env → M Bool} {f : Env → M D} {vs ws : List Nat} {σ : L2.St} {H : Hp} {Q : VK} (hw : ∀ i ∈ ws, i ∈ vs) (h : tE G E (cComp fi b t f vs) σ H Q) :
    tLc (tI G E fi) (tG G b ws) (tB_ G E0_ t) (tE G E0_ f) vs σ H Q := by
  obtain ⟨W0, H0, W, S, ρ, own, ev, h⟩ := h
  refine ⟨W0, H0, W, S, ρ, own, ev, (Po.bind ev.wk h).imp fun ds S1 W1 H1 l1 w1 s1 h1 J hJ p hp => ?_⟩
  obtain ⟨hz, h1⟩ := po_if h1
  have h1 := Po.bind w1 h1
  unfold noX at h1
  obtain ⟨own1, ev1⟩ := (ev.mono l1 w1 s1).wiped vs
  have nD : ∀ i, own1 i ≠ some p := fun i q => by
    obtain ⟨z, _⟩ := ev1.oB i p q
    exact w1.free hp z
  have z0 : H0 p = none := by
    cases q : H0 p with
    | none => rfl
    | some o =>
      rcases ev1.le.kp p o q with ⟨n, y⟩ | y
      · exact absurd (w1.rg n p (ev1.le.ph n p y)) (w1.free hp)
      · rw [hp] at y; cases y
  cases qr : compL b t f (wipeE ρ vs) ds S1 with
  | bad => rw [qr] at h1; exact h1.elim
  | exc c fs S' => rw [qr] at h1; exact h1.elim
  | ok ys S2 =>
    rw [qr] at h1
    have fin : ∀ W3 H3, Le W1 H1 W3 H3 → WOk W3 H3 → StOk G W3 H3 S2 → ∀ v, Rp G W3 H3 v (.lst ys) → Q v H3 := fun W3 H3 l w s v r => Po.now w s (h1 W3 H3 l w s) v r
    -- the invariant
    refine ⟨fun i m H' => m = ds.length - i ∧ i ≤ ds.length ∧ ∃ (Wc : Wd) (Sc : Store) (av : List V) (ad zs : List D), Ev G W0 H0 Wc H' Sc (wipe σ vs) (wipeE ρ vs) own1 ∧ Le W1 H1 Wc H' ∧ Wc.B p ∧ (∀ n, Wc.phi n ≠ some p) ∧
      H' p = some (.lst av) ∧ RpA G Wc H' av ad ∧ ad.length ≤ i ∧ compL b t f (wipeE ρ vs) (ds.drop i) Sc = .ok zs S2 ∧ ys = ad ++ zs, ?_, ?_⟩
    · exact ⟨ds.length, by simp, Nat.zero_le _, W1.add p, S1, [], [], ys, ev1.mono (le_add hp) (ok_add w1 hp) (st_add w1 s1 hp), le_add hp, .inr rfl, fun n q => w1.free hp (w1.rg n p q), upd_same, .nil, Nat.le_refl _, qr, rfl⟩
    · rintro i m H' ⟨rfl, hi, Wc, Sc, av, ad, zs, ec, lc, Bp, np, hL, ra, hlen, hr, hy⟩
      by_cases hlt : i < ds.length
      · obtain ⟨d, hd⟩ : ∃ d, ds[i]? = some d := ⟨ds[i], by simp [hlt]⟩
        have hdr : ds.drop i = d :: ds.drop (i + 1) := by
          rw [List.drop_eq_getElem_cons hlt]
          have : ds[i] = d := by simpa [hlt] using hd
          rw [this]
        rw [hdr] at hr
        obtain ⟨ρ', k, Sk, hb, ht, hk1, hk0⟩ := compL_ok hr
        obtain ⟨go, yl⟩ := hJ.go Wc H' (lc.lw w1) ec.wk i d hd
        refine .inr ⟨go, _, fun H2 h2 => ⟨ds.length - (i + 1), by omega, h2⟩, fun x H2 y2 => ?_⟩
        obtain ⟨sm, rx⟩ := yl x H2 y2
        have e2 := ec.same sm
        have lc2 : Le W1 H1 Wc H2 := lc.trans (Le.same sm) w1 e2.wk
        refine ⟨W0, H0, Wc, Sc, _, own1, d, ρ', e2, rx, hb, fun σ3 own3 o3 e3 => ?_⟩
        refine ⟨?_, W0, H0, Wc, Sc, ρ', own3, e3, ?_⟩
        · rw [wipe_same o3 hw, wipe_same (ws := vs) ⟨wipe_length σ vs, fun j hj => wipe_out hj⟩ fun _ h => h]
        · rw [ht]
          intro W3 H3 l3 w3 s3
          have e4 := e3.mono l3 w3 s3
          cases k with
          | true =>
            obtain ⟨y, Sy, zs', hf, hz2, hys⟩ := hk1 rfl
            refine iteT ⟨W0, H0, W3, Sk, ρ', own3, e4, ?_⟩
            rw [hf]
            intro W4 H4 l4 w4 s4 v rv
            have l34 := l3.trans l4 e3.wk w4
            have e5 := e2.mono l34 w4 s4
            have hL4 : H4 p = some (.lst av) := by
              rcases l34.kp p _ (sm _ _ hL) with ⟨n, z⟩ | z
              · exact absurd z (np n)
              · exact z
            have ra4 := (ra.mono (Lw.same sm)).mono (l34.lw e2.wk)
            have np4 : ∀ n, W4.phi n ≠ some p := fun n z => by
              rcases l34.ps n p z with y | y
              · exact np n y
              · rw [sm _ _ hL] at y; cases y
            have Bp4 : W4.B p := l34.Bm p Bp
            refine ⟨av, hL4, by rw [ra.length, sizeLine_eq]; omega, ?_⟩
            have lwp : Lw W4 H4 W4 (upd H4 p (.lst (av ++ [v]))) := ⟨fun _ _ h => h, fun _ h => .inl h, fun c u h nb => by rw [upd_ne (fun z => nb (by rw [z]; exact Bp4))]; exact h⟩
            have lc4 := lc2.trans l34 w1 w4
            refine ⟨rfl, hlt, W4, Sy, av ++ [v], ad ++ [y], zs', e5.poke Bp4 z0 np4 nD, ⟨lc4.ph, lc4.ps, lc4.Bm, lc4.Bn, fun c u h => ?_⟩, Bp4, np4, upd_same, (ra4.mono lwp).app (.cons (rv.mono lwp) .nil), ?_, hz2, ?_⟩
            · rcases lc4.kp c u h with z | z
              · exact .inl z
              · exact .inr (by rw [upd_ne (fun q => by rw [q, hp] at h; cases h)]; exact z)
            · rw [List.length_append, List.length_singleton]; omega
            · rw [hy, hys, List.append_assoc]; rfl
          | false =>
            refine iteF ⟨rfl, hlt, W3, Sk, av, ad, zs, e2.mono l3 w3 s3, lc2.trans l3 w1 w3, l3.Bm p Bp, fun n z => ?_, ?_, (ra.mono (Lw.same sm)).mono (l3.lw e2.wk), by omega, hk0 rfl, hy⟩
            · rcases l3.ps n p z with y | y
              · exact np n y
              · rw [sm _ _ hL] at y; cases y
            · rcases l3.kp p _ (sm _ _ hL) with ⟨n, z⟩ | z
              · exact absurd z (np n)
              · exact z
      · have e : i = ds.length := by omega
        subst e
        rw [List.drop_length] at hr
        have hr : Res.ok ([] : List D) Sc = Res.ok zs S2 := hr
        injection hr with hr1 hr2
        subst hr1 hr2
        rw [List.append_nil] at hy
        subst hy
        refine .inl ⟨hJ.stop Wc H' (lc.lw w1) _ (Nat.le_refl _), ?_⟩
        have lwd : Lw Wc H' (Wc.del p) H' := ⟨fun _ _ h => h, fun _ h => .inl h.1, fun _ _ h _ => h⟩
        refine fin (Wc.del p) H' ⟨lc.ph, lc.ps, fun a h => ⟨lc.Bm a h, fun z => w1.free hp (by rw [← z]; exact h)⟩, fun a h => lc.Bn a h.1, lc.kp⟩ ⟨fun a h => ec.wk.tr a h.1, fun n a h => ⟨ec.wk.rg n a h, fun z => np n (by rw [← z]; exact h)⟩, ec.wk.ij⟩
          ⟨fun n c h => let ⟨a, h1, h2⟩ := ec.st.at_ n c h; ⟨a, h1, h2.same lwd fun _ q => q⟩, ec.st.top⟩ _ (.lst hL (fun z => z.2 rfl) (ra.mono lwd))

variable {fi : Env → M (List D)} {b : Bd} {t : Env → M Bool} {f : Env → M D} {vs ws : List Nat}
abbrev DTs (X : Cx) (cl : Cls_) (E : WX) (es : List Expr) (f : Env → M Bool) : Prop := PTs X es (tB_ ⟨X.K, cl⟩ E f)
theorem pts_imp {es : List Expr} {t t' : TT} (h : PTs X es t) (i : ∀ σ H Q, t' σ H Q → t σ H Q) : PTs X es t' := ⟨fun pins s σ H Q I q => h.run pins s σ H Q I (i σ H Q q)⟩
theorem dts_nil : DTs X cl E [] cYes := pts_imp pts_nil fun σ H Q ⟨W0, H0, W, S, ρ, own, ev, h⟩ => Po.now ev.wk ev.st h
theorem dts_one {c : Expr} (h : DT X cl E c t) : DTs X cl E [c] t := pts_one h
abbrev Cx.bl (X : Cx) (s : Shared) (H : Hp) (scope : Scope) (C : Addr) (cs : List (Str × Addr)) (fp : List Addr) : Cx := X.blk s H scope (compEnvC scope cs C X.env) fp
theorem de_lc {elt tg iter : Expr} {ifs : List Expr} {scope : Scope} (own : List (Str × Nat)) {pos : Pos} (hc : X.calm = true) (hN : X.N.Nodup) (hi : DI X cl E tg iter fi) (ok : BlkOk X.N X.env.scope scope own)
    (hg : ∀ (s : Shared) (H : Hp) (C : Addr) (cs : List (Str × Addr)) (fp : List Addr), DG (Cx.bl X s H scope C cs fp) cl tg b ws) (ht : ∀ (s : Shared) (H : Hp) (C : Addr) (cs : List (Str × Addr)) (fp : List Addr), DTs (Cx.bl X s H scope C cs fp) cl E0_ ifs t)
    (he : ∀ (s : Shared) (H : Hp) (C : Addr) (cs : List (Str × Addr)) (fp : List Addr), DE (Cx.bl X s H scope C cs fp) cl E0_ elt f) (hw : ∀ i ∈ ws, i ∈ own.map (·.2) := by decide) (hs : ∀ x, foldedSetIterable iter X.env x = pure x := by intro _; rfl) :
    DE X cl E (.ListComp elt [⟨tg, iter, ifs, 0⟩] scope pos) (cComp fi b t f (own.map (·.2))) :=
  pe_imp (pe_lc hc hN hi ok hg ht he hs) fun σ H Q h => tLc_of (G := ⟨X.K, cl⟩) hw h

/-! ### statements -/
theorem PoS.step {G : Gx} {E : WX} {W0 W W1 : Wd} {H0 H H1 : Hp} {r : RS} {R : Fl → Env → Store → Wd → Hp → L2.St → (Nat → Option Addr) → Prop} (l : Lw W H W1 H1) (h : PoS G E W0 H0 W H r R) : PoS G E W0 H0 W1 H1 r R := by
  cases r with
  | go fl ρ' S' => exact fun W' H' σ' own' l' e' => h W' H' σ' own' (l.trans l') e'
  | exc c fs ρ' S' => exact fun W' H' σ' own' cls dd l' e' => h W' H' σ' own' cls dd (l.trans l') e'
  | bad => exact h
theorem PoS.imp {G : Gx} {E : WX} {W0 W : Wd} {H0 H : Hp} {r : RS} {R R' : Fl → Env → Store → Wd → Hp → L2.St → (Nat → Option Addr) → Prop} (h : PoS G E W0 H0 W H r R)
    (i : ∀ fl ρ' S' W' H' σ' own', Lw W H W' H' → Ev G W0 H0 W' H' S' σ' ρ' own' → R fl ρ' S' W' H' σ' own' → R' fl ρ' S' W' H' σ' own') : PoS G E W0 H0 W H r R' := by
  cases r with
  | go fl ρ' S' => exact fun W' H' σ' own' l' e' => i _ _ _ _ _ _ _ l' e' (h W' H' σ' own' l' e')
  | exc c fs ρ' S' => exact h
  | bad => exact h
abbrev wF (G : Gx) (Dn : Ends) : Fl → Env → Store → Wd → Hp → L2.St → (Nat → Option Addr) → Prop := fun fl _ _ W' H' σ' _ => wantF G Dn W' σ' H' fl
/-- an expression's result, then what is made of it -/
def onE {α : Type} (r : Res α) (ρ : Env) (k : α → Store → RS) : RS := match r with
  | .ok a S' => k a S'
  | .exc c fs S' => .exc c fs ρ S'
  | .bad => .bad
theorem PoS.onE {G : Gx} {E : WX} {W0 W : Wd} {H0 H : Hp} {S : Store} {σ : L2.St} {ρ : Env} {own : Nat → Option Addr} {α : Type} {r : Res α} {k : α → Store → RS} {R : Fl → Env → Store → Wd → Hp → L2.St → (Nat → Option Addr) → Prop}
    (ev : Ev G W0 H0 W H S σ ρ own) (h : PoS G E W0 H0 W H (DN.onE r ρ k) R) : Po G E σ W H r (fun a S1 W1 H1 => PoS G E W0 H0 W1 H1 (k a S1) R) := by
  cases r with
  | ok a S' => exact fun W' H' l w s => PoS.step (l.lw ev.wk) h
  | exc c fs S' => exact fun W' H' cls dd l w s x => h W' H' σ own cls dd (l.lw ev.wk) (ev.mono l w s) x
  | bad => exact h
def cAsg (fe : Env → M D) (b : Bd) : Sm := fun ρ S => onE (fe ρ S) ρ fun d S' => match b d ρ with
  | some ρ' => .go .nx ρ' S'
  | none => .bad
def cRet (fe : Env → M D) : Sm := fun ρ S => onE (fe ρ S) ρ fun d S' => .go (.rt d) ρ S'
def cDrop (fe : Env → M D) : Sm := fun ρ S => onE (fe ρ S) ρ fun _ S' => .go .nx ρ S'
def cIfS (t : Env → M Bool) (f g : Sm) : Sm := fun ρ S => onE (t ρ S) ρ fun b S' => if b then f ρ S' else g ρ S'
def cNext : Sm := fun ρ S => .go .nx ρ S
def cRetN : Sm := fun ρ S => .go (.rt .non) ρ S
def cBrk : Sm := fun ρ S => .go .bk ρ S
def cCont : Sm := fun ρ S => .go .ct ρ S
def cSeq (f g : Sm) : Sm := fun ρ S => match f ρ S with
  | .go .nx ρ' S' => g ρ' S'
  | r => r
def forL (b : Bd) (body : Sm) : List D → Sm
  | [] => fun ρ S => .go .nx ρ S
  | d :: ds => fun ρ S => match b d ρ with
    | none => .bad
    | some ρ1 => match body ρ1 S with
      | .go .nx ρ2 S2 => forL b body ds ρ2 S2
      | .go .ct ρ2 S2 => forL b body ds ρ2 S2
      | .go .bk ρ2 S2 => .go .nx ρ2 S2
      | r => r
def cFor (fi : Env → M (List D)) (b : Bd) (body : Sm) : Sm := fun ρ S => onE (fi ρ S) ρ fun ds S' => forL b body ds ρ S'
variable {e c : Expr} {st : Stmt} {sts body orelse : List Stmt} {fe : Env → M D} {fs gs : Sm} {pos : Pos}
theorem dss_nil : DSs X cl E [] cNext := pss_imp pss_nil fun Dn σ H ⟨W0, H0, W, S, ρ, own, ev, h⟩ => h W H σ own Lw.refl ev
theorem dss_one (h : DS X cl E st fs) : DSs X cl E [st] fs := pss_one h
theorem dss_cons (h1 : DS X cl E st fs) (h2 : DSs X cl E sts gs) : DSs X cl E (st :: sts) (cSeq fs gs) := by
  refine pss_imp (pss_cons h1 h2) fun Dn σ H ⟨W0, H0, W, S, ρ, own, ev, h⟩ => ?_
  refine ⟨W0, H0, W, S, ρ, own, ev, ?_⟩
  have h : PoS ⟨X.K, cl⟩ E W0 H0 W H (cSeq fs gs ρ S) (wF ⟨X.K, cl⟩ Dn) := h
  unfold cSeq at h
  cases q : fs ρ S with
  | bad => rw [q] at h; exact h
  | exc c f ρ' S' => rw [q] at h; exact h
  | go fl ρ' S' =>
    rw [q] at h
    intro W' H' σ' own' l' e'
    cases fl with
    | nx => exact ⟨W0, H0, W', S', ρ', own', e', PoS.step l' h⟩
    | rt d => exact h W' H' σ' own' l' e'
    | bk => exact h W' H' σ' own' l' e'
    | ct => exact h W' H' σ' own' l' e'
theorem ds_pass : DS X cl E (.Pass pos) cNext := ps_imp ps_pass fun Dn σ H ⟨W0, H0, W, S, ρ, own, ev, h⟩ => h W H σ own Lw.refl ev
theorem ds_doc {x j pos pos'} : DS X cl E (.Expr (.Constant (.str x) j pos) pos') cNext := ps_imp ps_doc fun Dn σ H ⟨W0, H0, W, S, ρ, own, ev, h⟩ => h W H σ own Lw.refl ev
theorem ds_break : DS X cl E (.Break pos) cBrk := ps_imp ps_break fun Dn σ H ⟨W0, H0, W, S, ρ, own, ev, h⟩ => h W H σ own Lw.refl ev
theorem ds_cont : DS X cl E (.Continue pos) cCont := ps_imp ps_continue fun Dn σ H ⟨W0, H0, W, S, ρ, own, ev, h⟩ => h W H σ own Lw.refl ev
theorem ds_retN : DS X cl E (.Return none pos) cRetN := ps_imp ps_retN fun Dn σ H ⟨W0, H0, W, S, ρ, own, ev, h⟩ => h W H σ own Lw.refl ev .non .non
theorem ds_ret (he : DE X cl E e fe) : DS X cl E (.Return (some e) pos) (cRet fe) := by
  refine ps_imp (ps_ret he) fun Dn σ H ⟨W0, H0, W, S, ρ, own, ev, h⟩ => ⟨W0, H0, W, S, ρ, own, ev, (PoS.onE ev h).imp fun d S1 W1 H1 l w s hh v rv => ?_⟩
  exact hh W1 H1 σ own Lw.refl (ev.mono l w s) v rv
theorem ds_expr (he : DE X cl E e fe) (hs : swapsWith e none pos.line X.env = pure false := by rfl) : DS X cl E (.Expr e pos) (cDrop fe) := by
  refine ps_imp (ps_expr he hs) fun Dn σ H ⟨W0, H0, W, S, ρ, own, ev, h⟩ => ⟨W0, H0, W, S, ρ, own, ev, (PoS.onE ev h).imp fun d S1 W1 H1 l w s hh v rv => ?_⟩
  exact hh W1 H1 σ own Lw.refl (ev.mono l w s)
theorem ds_if {a b : List Stmt} (hc : DT X cl E c t) (ha : DSs X cl E a fs) (hb : DSs X cl E b gs) : DS X cl E (.If c a b pos) (cIfS t fs gs) := by
  refine ps_imp (ps_if hc ha hb) fun Dn σ H ⟨W0, H0, W, S, ρ, own, ev, h⟩ => ⟨W0, H0, W, S, ρ, own, ev, (PoS.onE ev h).imp fun k S1 W1 H1 l w s hh => ?_⟩
  cases k with
  | true => exact iteT ⟨W0, H0, W1, S1, ρ, own, ev.mono l w s, hh⟩
  | false => exact iteF ⟨W0, H0, W1, S1, ρ, own, ev.mono l w s, hh⟩
theorem ds_asg {tg : Expr} (he : DE X cl E e fe) (hg : DG X cl tg b ws) (hs : swapsWithSole [tg] e pos.line X.env = pure false := by rfl) (hw : swappedStores [tg] e X.env = pure none := by rfl) (h1 : (assignEach [tg] X.env).map (·.2) = [assign tg X.env] := by rfl) : DS X cl E (.Assign [tg] e pos) (cAsg fe b) := by
  refine ps_imp (ps_asg he hg hs hw h1) fun Dn σ H ⟨W0, H0, W, S, ρ, own, ev, h⟩ => ⟨W0, H0, W, S, ρ, own, ev, (PoS.onE ev h).imp fun d S1 W1 H1 l w s hh v rv => ?_⟩
  cases q : b d ρ with
  | none => rw [q] at hh; exact hh.elim
  | some ρ' =>
    rw [q] at hh
    exact ⟨W0, H0, W1, S1, ρ, own, d, ρ', ev.mono l w s, rv, q, fun σ' own' _ e' => hh W1 H1 σ' own' Lw.refl e'⟩
/-- name = value -/
theorem ds_set (i : Nat) {x : Str} {pos' : Pos} (hN : X.N.Nodup) (he : DE X cl E e fe) (hi : X.N[i]? = some x := by rfl) (hx : Loc X.env.scope x := by first | exact Or.inl rfl | exact Or.inr rfl) (hs : swapsWith e (some (.Name x pos')) pos.line X.env = pure false := by rfl) (hf : X.fn x = true ∨ X.env.scope.names.lookup x = some .local := by first | exact .inl rfl | exact .inr rfl) :
    DS X cl E (.Assign [.Name x pos'] e pos) (cAsg fe (bName i)) := by
  refine ps_imp (ps_set (i := i) hN hi hx he hs hf) fun Dn σ H ⟨W0, H0, W, S, ρ, own, ev, h⟩ => ⟨W0, H0, W, S, ρ, own, ev, (PoS.onE ev h).imp fun d S1 W1 H1 l w s hh v rv => ?_⟩
  exact hh W1 H1 _ _ Lw.refl ((ev.mono l w s).set rv)
/-- name = [..] -/
theorem ds_setLc (i : Nat) {y : Str} {py : Pos} {elt tg iter : Expr} {ifs : List Expr} {scope : Scope} (own : List (Str × Nat)) {pos spos : Pos} (hc : X.calm = true) (hN : X.N.Nodup) (hi : DI X cl E tg iter fi) (ok : BlkOk X.N X.env.scope scope own)
    (hg : ∀ (s : Shared) (H : Hp) (C : Addr) (cs : List (Str × Addr)) (fp : List Addr), DG (Cx.bl X s H scope C cs fp) cl tg b ws) (ht : ∀ (s : Shared) (H : Hp) (C : Addr) (cs : List (Str × Addr)) (fp : List Addr), DTs (Cx.bl X s H scope C cs fp) cl E0_ ifs t)
    (he : ∀ (s : Shared) (H : Hp) (C : Addr) (cs : List (Str × Addr)) (fp : List Addr), DE (Cx.bl X s H scope C cs fp) cl E0_ elt f)
    (hsw : swapsWith (.ListComp elt [⟨tg, iter, ifs, 0⟩] scope pos) (some (.Name y py)) spos.line X.env = pure true := by exact sw_true rfl rfl rfl (by decide +kernel)) (hy : X.N[i]? = some y := by rfl) (hyl : X.env.scope.names.lookup y = some .local := by rfl)
    (hw : ∀ i ∈ ws, i ∈ own.map (·.2) := by decide) (hs : ∀ x, foldedSetIterable iter X.env x = pure x := by intro _; rfl) :
    DS X cl E (.Assign [.Name y py] (.ListComp elt [⟨tg, iter, ifs, 0⟩] scope pos) spos) (cAsg (cComp fi b t f (own.map (·.2))) (bName i)) := by
  refine ps_imp (ps_setLc (i := i) (g := tG ⟨X.K, cl⟩ b ws) (tt := tB_ ⟨X.K, cl⟩ E0_ t) (te := tE ⟨X.K, cl⟩ E0_ f) hc hN hy hyl hsw hi ok hg ht he hs) fun Dn σ H ⟨W0, H0, W, S, ρ, own', ev, h⟩ => ?_
  refine tLc_of (G := ⟨X.K, cl⟩) hw ⟨W0, H0, W, S, ρ, own', ev, (PoS.onE ev h).imp fun d S1 W1 H1 l w s hh v rv => ?_⟩
  exact hh W1 H1 _ _ Lw.refl ((ev.mono l w s).set rv)
theorem ds_for {tg iter : Expr} (hp : PassesOwn (model X.prog X.w) X.A X.env X.xe) (hc : X.calm = true) (hi : DI X cl E tg iter fi) (hg : DG X cl tg b ws) (hb : DSs X cl E body fs) (hs : ∀ x, foldedSetIterable iter X.env x = pure x := by intro _; rfl) :
    DS X cl E (.For tg iter body [] pos) (cFor fi b fs) := by
  refine ps_imp (ps_for hp hc hi hg hb hs) fun Dn σ H ⟨W0, H0, W, S, ρ, own, ev, h⟩ => ?_
  refine ⟨W0, H0, W, S, ρ, own, ev, (PoS.onE ev h).imp fun ds S1 W1 H1 l1 w1 s1 hh J hJ => ?_⟩
  refine ⟨fun i m σ' H' => m = ds.length - i ∧ i ≤ ds.length ∧ ∃ (Wc : Wd) (Sc : Store) (ρc : Env) (oc : Nat → Option Addr), Ev ⟨X.K, cl⟩ W0 H0 Wc H' Sc σ' ρc oc ∧ Lw W1 H1 Wc H' ∧ PoS ⟨X.K, cl⟩ E W0 H0 Wc H' (forL b fs (ds.drop i) ρc Sc) (wF ⟨X.K, cl⟩ Dn),
    ⟨ds.length, by simp, Nat.zero_le _, W1, S1, ρ, own, ev.mono l1 w1 s1, Lw.refl, hh⟩, ?_⟩
  rintro i m σ' H' ⟨rfl, hi, Wc, Sc, ρc, oc, ec, lc, hq⟩
  by_cases hlt : i < ds.length
  · obtain ⟨d, hd⟩ : ∃ d, ds[i]? = some d := ⟨ds[i], by simp [hlt]⟩
    have hdr : ds.drop i = d :: ds.drop (i + 1) := by
      rw [List.drop_eq_getElem_cons hlt]
      have : ds[i] = d := by simpa [hlt] using hd
      rw [this]
    rw [hdr] at hq
    obtain ⟨go, yl⟩ := hJ.go Wc H' lc ec.wk i d hd
    refine .inr ⟨go, _, fun σ2 H2 h2 => ⟨ds.length - (i + 1), by omega, h2⟩, fun x H2 y2 => ?_⟩
    obtain ⟨sm, rx⟩ := yl x H2 y2
    have e2 := ec.same sm
    have hq := PoS.step (Lw.same sm) hq
    unfold forL at hq
    cases q : b d ρc with
    | none => rw [q] at hq; exact hq.elim
    | some ρ1 =>
      rw [q] at hq
      dsimp only at hq
      refine ⟨W0, H0, Wc, Sc, ρc, oc, d, ρ1, e2, rx, q, fun σ3 own3 _ e3 => ⟨W0, H0, Wc, Sc, ρ1, own3, e3, ?_⟩⟩
      cases q2 : fs ρ1 Sc with
      | bad => rw [q2] at hq; exact hq.elim
      | exc c f ρ' S' => rw [q2] at hq; exact hq
      | go fl ρ2 S2 =>
        rw [q2] at hq
        intro W' H3 σ4 own4 l4 e4
        have l5 := (lc.trans (Lw.same sm)).trans l4
        cases fl with
        | nx => exact ⟨rfl, hlt, W', S2, ρ2, own4, e4, l5, PoS.step l4 hq⟩
        | ct => exact ⟨rfl, hlt, W', S2, ρ2, own4, e4, l5, PoS.step l4 hq⟩
        | bk => exact hq W' H3 σ4 own4 l4 e4
        | rt d => exact hq W' H3 σ4 own4 l4 e4
  · have e : i = ds.length := by omega
    subst e
    rw [List.drop_length] at hq
    exact .inl ⟨hJ.stop Wc H' lc _ (Nat.le_refl _), hq Wc H' σ' oc Lw.refl ec⟩
end

/-! ### defs -/
def runF (n m : Nat) (body : Sm) : List D → M D := fun ds S =>
  if ds.length = n then
    match body (ds.map Sl.val ++ List.replicate (m - n) Sl.un) S with
    | .go (.rt d) _ S' => .ok d S'
    | .go .nx _ S' => .ok .non S'
    | .exc c fs _ S' => .exc c fs S'
    | _ => .bad
  else .bad
def spD (G : Gx) (n : Nat) (F : List D → M D) : Sp := fun vs H Q E => ∃ W S ds, WOk W H ∧ StOk G W H S ∧ RpA G W H vs ds ∧ ds.length = n ∧ Po G (fun c d _ H => E c d H) [] W H (F ds S) (RV G Q)
theorem Po.wish {G : Gx} {E E' : WX} {σ σ' : L2.St} {W : Wd} {H : Hp} {α : Type} {r : Res α} {R : α → Store → Wd → Hp → Prop} (h : Po G E σ W H r R) (i : ∀ c d H, E c d σ H → E' c d σ' H) : Po G E' σ' W H r R := by
  cases r with
  | ok a S' => exact h
  | exc c fs S' => exact fun W' H' cls dd l w s x => i _ _ _ (h W' H' cls dd l w s x)
  | bad => exact h
theorem ev_start {G : Gx} {W : Wd} {H : Hp} {S : Store} {vs : List V} {ds : List D} {m : Nat} (N : List Str) (w : WOk W H) (s : StOk G W H S) (r : RpA G W H vs ds) (hm : m = N.length) : Ev G W H W H S (L2.start N vs) (ds.map Sl.val ++ List.replicate (m - ds.length) Sl.un) (fun _ => none) := by
  refine ⟨w, w, Le.refl, s, ?_, fun i d h => ?_, fun i xs h => ?_, fun i a h => (nomatch h), fun i j a h => (nomatch h)⟩
  · unfold L2.start
    rw [List.length_append, List.length_append, List.length_map, List.length_map, List.length_replicate, List.length_replicate, r.length, hm]
  · by_cases hi : i < ds.length
    · rw [List.getElem?_append_left (by simpa using hi), List.getElem?_map] at h
      obtain ⟨d', h1, h2⟩ := Option.map_eq_some_iff.mp h
      cases h2
      obtain ⟨v, h3, h4⟩ := r.get h1
      refine ⟨v, ?_, h4⟩
      unfold L2.start
      rw [List.getElem?_append_left (by rw [List.length_map, r.length]; exact hi), List.getElem?_map, h3]
      rfl
    · rw [List.getElem?_append_right (by simpa using hi), List.getElem?_replicate] at h
      split at h <;> cases h
  · by_cases hi : i < ds.length
    · rw [List.getElem?_append_left (by simpa using hi), List.getElem?_map] at h
      obtain ⟨d', h1, h2⟩ := Option.map_eq_some_iff.mp h
      cases h2
    · rw [List.getElem?_append_right (by simpa using hi), List.getElem?_replicate] at h
      split at h <;> cases h
section
variable {P : Program} {w : World} {K : PySem.W.Frag} {mg : Str → Option Value} {base : Heap} {cl : Cls_}
abbrev FnD (P : Program) (w : World) (K : PySem.W.Frag) (mg : Str → Option Value) (base : Heap) (cl : Cls_) (k : Nat) (f : Addr) (fd : FuncData) (ps : List Str) (F : List D → M D) : Prop := FnOk P w K mg base (L2.CX P w) k f fd ps (spD ⟨K, cl⟩ ps.length F)
/-- the context of a def's body -/
abbrev cxD (P : Program) (w : World) (K : PySem.W.Frag) (mg : Str → Option Value) (base : Heap) (N : List Str) (qual : Str) (st : Stmt) (f : Addr) (cdv : Value) (A : Around) (outer : List PySem.Env) (s : Shared) (H : Hp) (E : XK) : Cx := cxOf (L2.CX P w) P w K mg base N qual (defScope st) f cdv A outer s H E
theorem fn_D {x qual : Str} {st : Stmt} {f : Addr} {fd : FuncData} {N ps : List Str} {k : Nat} {body : Sm} (F : Fun K x qual st f fd) (S : FnScope N ps (defScope st))
    (hb : ∀ (cdv : Value) (A : Around) (outer : List PySem.Env) (s : Shared) (H : Hp) (E : XK), Room k (A.deeper (envOfC qual (defScope st) s.heap.objs.size f cdv)) → DSs (cxD P w K mg base N qual st f cdv A outer s H E) cl (fun c d _ H => E c d H) (defBody st) body) :
    FnD P w K mg base cl (k + 1) f fd ps (runF ps.length N.length body) := by
  refine F.okX S (fun vs H Q E ⟨W, S, ds, _, _, r, e, _⟩ => r.length.trans e) fun cdv A outer s H vs Q E hr ⟨W, S, ds, w0, s0, r, e, h⟩ => ⟨_, hb cdv A outer s H E hr, ?_⟩
  refine ⟨W, H, W, S, _, _, ev_start N w0 s0 r rfl, ?_⟩
  have h : Po ⟨K, cl⟩ (fun c d _ H => E c d H) [] W H (runF ps.length N.length body ds S) (RV ⟨K, cl⟩ Q) := h
  unfold runF at h
  rw [if_pos e, ← e] at h
  cases q : body (ds.map Sl.val ++ List.replicate (N.length - ds.length) Sl.un) S with
  | bad => rw [q] at h; exact h.elim
  | exc c fs ρ' S' =>
    rw [q] at h
    exact fun W' H' σ' own' cls dd l' e' x => h W' H' cls dd e'.le e'.wk e'.st x
  | go fl ρ' S' =>
    rw [q] at h
    intro W' H' σ' own' l' e'
    cases fl with
    | nx => exact h W' H' e'.le e'.wk e'.st _ .non
    | rt d => exact fun v rv => h W' H' e'.le e'.wk e'.st v rv
    | bk => exact h.elim
    | ct => exact h.elim
end
/-- a call of a def of the text -/
def cCall (n : Nat) (F : List D → M D) (fs : Env → M (List D)) : Env → M D := cA (fun ds => if ds.length = n then F ds else M.bad) fs
section
variable {X : Cx} {cl : Cls_} {E : WX} {k : Nat} {f : Addr} {fd : FuncData} {ps : List Str} {x : Str} {p pos : Pos} {e : Expr} {es : List Expr} {fs : Env → M (List D)} {F : List D → M D}
theorem de_call (FF : FnD X.prog X.w X.K X.mg X.base cl k f fd ps F) (hr : Room k X.A) (hm : X.mg x = some (.ref f)) (hk : PySem.W.keepIn X.K (.ref f) = true) (hb : Binds X.K fd ps []) (tk : Takes X E) (ha : DA X cl E (e :: es) fs) (hg : Gl X x := by rfl) (hdb : (x == ("__debug__" : Str)) = false := by decide)
    (he : starEach (e :: es) X.env = (false, eval e X.env) :: starEach es X.env := by rfl) (hpl : (backTo pos (starEach es X.env)).any (·.1) = false := by rfl) : DE X cl E (.Call (.Name x p) (e :: es) [] pos) (cCall ps.length F fs) := by
  refine pe_imp (pe_callS FF hr hg hm hk hb (fun σ => passAt tk σ) ha hdb he hpl) fun σ H Q h => ?_
  refine tA_bind h fun W0 H0 W1 H1 S1 ρ own vs ds ev r hh => ?_
  obtain ⟨c, hh⟩ := po_if hh
  exact ⟨W1, S1, ds, ev.wk, ev.st, r, c, hh.wish fun _ _ _ q => q⟩
end
end DN
/-! DN6: in, stores into cells, lists of one's own, pairs of names, texts. -/
namespace DN
open PySem PySem.Spec PyProof.Rows L2

theorem _root_.L2.Room.un65 {k : Nat} {A : Around} (r : Room k A) : A.units + 65 < cLine := by have := r.un; omega
/-! ### in -/
def inP (x : D) (ys : List D) : Option Bool := match toP x, toPs ys with
  | some p, some qs => if SeqAt.shaped p = true ∧ SeqAt.shaped (.list qs) = true ∧ SeqAt.shaped (.tuple qs) = true then some (qs.any fun z => PyData.eqv z p) else none
  | _, _ => none
def inD : D → D → Option Bool
  | x, .lst ys => inP x ys
  | x, .tup ys => inP x ys
  | .str ⟨cs⟩, .str z => match cs.toList with
    | [c] => some (decide (c ∈ z.cps.toList))
    | _ => none
  | _, _ => none
def gIn (x y : D) : M D := match inD x y with
  | some b => M.pure (.bl b)
  | none => M.bad
def gNotIn (x y : D) : M D := match inD x y with
  | some b => M.pure (.bl (!b))
  | none => M.bad
section
variable {X : Cx} {cl : Cls_} {K : PySem.W.Frag}
def rInT (K : PySem.W.Frag) : R2 := fun x y H Q => ∃ d ds, Dp K H x d ∧ Dp K H y (.tuple ds) ∧ SeqAt.shaped d = true ∧ SeqAt.shaped (.tuple ds) = true ∧ Q (.bl (ds.any fun z => PyData.eqv z d)) H
def rNotInT (K : PySem.W.Frag) : R2 := fun x y H Q => ∃ d ds, Dp K H x d ∧ Dp K H y (.tuple ds) ∧ SeqAt.shaped d = true ∧ SeqAt.shaped (.tuple ds) = true ∧ Q (.bl (!ds.any fun z => PyData.eqv z d)) H
theorem op_inT (hu : X.A.units + 65 < cLine) : OpR X (compareOp .In) (rInT X.K) := by
  rintro pins s σ H x y v u Q I rx ry ⟨d, ds, hd, hds, s1, s2, q⟩
  obtain ⟨as, r1⟩ := Dp.reads I d x v hd rx
  obtain ⟨bs, r2⟩ := Dp.reads I (.tuple ds) y u hds ry
  exact SeqAt.in_tuple_reads r2 r1 (SeqAt.canLay_of_shaped s2) (SeqAt.canLay_of_shaped s1) (room_in_shaped s1 hu) (fin_bl I q rfl)
theorem op_notInT (hu : X.A.units + 65 < cLine) : OpR X (compareOp .NotIn) (rNotInT X.K) := by
  rintro pins s σ H x y v u Q I rx ry ⟨d, ds, hd, hds, s1, s2, q⟩
  obtain ⟨as, r1⟩ := Dp.reads I d x v hd rx
  obtain ⟨bs, r2⟩ := Dp.reads I (.tuple ds) y u hds ry
  exact SeqAt.notIn_tuple_reads r2 r1 (SeqAt.canLay_of_shaped s2) (SeqAt.canLay_of_shaped s1) (room_in_shaped s1 hu) (fin_bl I q rfl)
def rInA (K : PySem.W.Frag) : R2 := fun x y H Q => rInD K x y H Q ∨ rInT K x y H Q ∨ ∃ (c : Nat) (z : Str), x = .str ⟨#[c]⟩ ∧ y = .str z ∧ Q (.bl (decide (c ∈ z.cps.toList))) H
def rNotInA (K : PySem.W.Frag) : R2 := fun x y H Q => rNotInD K x y H Q ∨ rNotInT K x y H Q ∨ ∃ (c : Nat) (z : Str), x = .str ⟨#[c]⟩ ∧ y = .str z ∧ Q (.bl (!decide (c ∈ z.cps.toList))) H
theorem op_inA (hu : X.A.units + 65 < cLine) : OpR X (compareOp .In) (rInA X.K) := (op_inD hu).or ((op_inT hu).or op_in_sign)
theorem op_notInA (hu : X.A.units + 65 < cLine) : OpR X (compareOp .NotIn) (rNotInA X.K) := (op_notInD hu).or ((op_notInT hu).or op_notIn_sign)
theorem inP_ok {x : D} {ys : List D} {b : Bool} (h : inP x ys = some b) : ∃ p qs, toP x = some p ∧ toPs ys = some qs ∧ SeqAt.shaped p = true ∧ SeqAt.shaped (.list qs) = true ∧ SeqAt.shaped (.tuple qs) = true ∧ b = qs.any fun z => PyData.eqv z p := by
  unfold inP at h
  cases q1 : toP x with
  | none => rw [q1] at h; cases h
  | some p =>
    cases q2 : toPs ys with
    | none => rw [q1, q2] at h; cases h
    | some qs =>
      rw [q1, q2] at h
      dsimp only at h
      by_cases hc : SeqAt.shaped p = true ∧ SeqAt.shaped (.list qs) = true ∧ SeqAt.shaped (.tuple qs) = true
      · rw [if_pos hc] at h
        cases h
        exact ⟨p, qs, rfl, rfl, hc.1, hc.2.1, hc.2.2, rfl⟩
      · rw [if_neg hc] at h; cases h
theorem inD_ok {W : Wd} {H : Hp} {x y : V} {dx dy : D} {b : Bool} (rx : Rp ⟨K, cl⟩ W H x dx) (ry : Rp ⟨K, cl⟩ W H y dy) (h : inD dx dy = some b) :
    (∃ d ds, Dp K H x d ∧ Dp K H y (.list ds) ∧ SeqAt.shaped d = true ∧ SeqAt.shaped (.list ds) = true ∧ b = ds.any fun z => PyData.eqv z d) ∨
    (∃ d ds, Dp K H x d ∧ Dp K H y (.tuple ds) ∧ SeqAt.shaped d = true ∧ SeqAt.shaped (.tuple ds) = true ∧ b = ds.any fun z => PyData.eqv z d) ∨
    ∃ (c : Nat) (z : Str), x = .str ⟨#[c]⟩ ∧ y = .str z ∧ b = decide (c ∈ z.cps.toList) := by
  cases dy with
  | lst ys =>
    have h : inP dx ys = some b := by cases dx <;> exact h
    obtain ⟨p, qs, e1, e2, s1, s2, s3, e⟩ := inP_ok h
    exact .inl ⟨p, qs, rx.dp e1, ry.dp (by simp [toP, e2]), s1, s2, e⟩
  | tup ys =>
    have h : inP dx ys = some b := by cases dx <;> exact h
    obtain ⟨p, qs, e1, e2, s1, s2, s3, e⟩ := inP_ok h
    exact .inr (.inl ⟨p, qs, rx.dp e1, ry.dp (by simp [toP, e2]), s1, s3, e⟩)
  | str z =>
    cases dx with
    | str c =>
      obtain ⟨cs⟩ := c
      cases rx; cases ry
      unfold inD at h
      dsimp only at h
      split at h
      · rename_i c e
        cases h
        refine .inr (.inr ⟨c, z, ?_, rfl, rfl⟩)
        have : cs = #[c] := by rw [← Array.toList_inj]; exact e
        rw [this]
      · cases h
    | _ => cases h
  | _ => cases dx <;> cases h
theorem od_in : OpD K cl (rInA K) gIn := by
  intro E σ W H S x y dx dy Q w s rx ry h
  unfold gIn at h
  cases q : inD dx dy with
  | none => rw [q] at h; exact h.elim
  | some b =>
    rw [q] at h
    rcases inD_ok rx ry q with ⟨d, ds, h1, h2, h3, h4, e⟩ | ⟨d, ds, h1, h2, h3, h4, e⟩ | ⟨c, z, h1, h2, e⟩
    · subst e; exact .inl ⟨d, ds, h1, h2, h3, h4, Po.val w s h (.bl _)⟩
    · subst e; exact .inr (.inl ⟨d, ds, h1, h2, h3, h4, Po.val w s h (.bl _)⟩)
    · subst e; exact .inr (.inr ⟨c, z, h1, h2, Po.val w s h (.bl _)⟩)
theorem od_notIn : OpD K cl (rNotInA K) gNotIn := by
  intro E σ W H S x y dx dy Q w s rx ry h
  unfold gNotIn at h
  cases q : inD dx dy with
  | none => rw [q] at h; exact h.elim
  | some b =>
    rw [q] at h
    rcases inD_ok rx ry q with ⟨d, ds, h1, h2, h3, h4, e⟩ | ⟨d, ds, h1, h2, h3, h4, e⟩ | ⟨c, z, h1, h2, e⟩
    · subst e; exact .inl ⟨d, ds, h1, h2, h3, h4, Po.val w s h (.bl _)⟩
    · subst e; exact .inr (.inl ⟨d, ds, h1, h2, h3, h4, Po.val w s h (.bl _)⟩)
    · subst e; exact .inr (.inr ⟨c, z, h1, h2, Po.val w s h (.bl _)⟩)
end

/-! ### a store into a cell: o[i] = v -/
def gSetI (o i v : D) : M Unit := match o, i with
  | .mut n, .int k => fun S => match S[n]? with
    | some (.lst xs) => match ixN xs.length k with
      | some j => .ok () (S.set n (.lst (xs.set j v)))
      | none => .bad
    | _ => .bad
  | _, _ => M.bad
def cSetI (fe fo fi : Env → M D) : Sm := fun ρ S => onE (fe ρ S) ρ fun v S1 => onE (fo ρ S1) ρ fun o S2 => onE (fi ρ S2) ρ fun i S3 => onE (gSetI o i v S3) ρ fun _ S4 => .go .nx ρ S4
/-- a cell is changed -/
theorem put_cell {G : Gx} {W : Wd} {H : Hp} {S : Store} {n : Nat} {a : Addr} {o : HO} {c : Cell} (w : WOk W H) (s : StOk G W H S) (h : W.phi n = some a) (hn : n < S.length) (hc : Lw W H W (upd H a o) → CellOk G W (upd H a o) a c) :
    Le W H W (upd H a o) ∧ WOk W (upd H a o) ∧ StOk G W (upd H a o) (S.set n c) := by
  have hB := w.rg n a h
  have lw : Lw W H W (upd H a o) := ⟨fun _ _ h => h, fun _ h => .inl h, fun b u q nb => by rw [upd_ne (fun z => nb (by rw [z]; exact hB))]; exact q⟩
  refine ⟨⟨fun _ _ h => h, fun _ _ h => .inl h, fun _ h => h, fun _ h => .inl h, fun b u q => ?_⟩, ⟨fun b q => ?_, w.rg, w.ij⟩, ⟨fun m c' q => ?_, fun m q => ?_⟩⟩
  · by_cases e : b = a
    · exact .inl ⟨n, by rw [e]; exact h⟩
    · exact .inr (by rw [upd_ne e]; exact q)
  · by_cases e : b = a
    · exact ⟨o, by rw [e, upd_same]⟩
    · obtain ⟨u, z⟩ := w.tr b q
      exact ⟨u, by rw [upd_ne e]; exact z⟩
  · by_cases e : m = n
    · subst e
      rw [List.getElem?_set_self hn] at q
      cases q
      exact ⟨a, h, hc lw⟩
    · rw [List.getElem?_set_ne (Ne.symm e)] at q
      obtain ⟨b, h1, h2⟩ := s.at_ m c' q
      exact ⟨b, h1, h2.same lw fun u z => by rw [upd_ne (fun y => e (w.ij m n a (by rw [← y]; exact h1) h))]; exact z⟩
  · rw [List.length_set] at q
    exact s.top m q
section
variable {X : Cx} {cl : Cls_} {E : WX} {o i e : Expr} {fo fi fe : Env → M D} {pos tpos : Pos}
theorem ds_setI (he : DE X cl E e fe) (ho : DE X cl E o fo) (hi : DE X cl E i fi)
    (ha : ∀ v, assign (.Subscript o i tpos) X.env v = (do
      let ov ← holding [v] (eval o X.env)
      let iv ← holding [v, ov] (eval i X.env)
      standAt tpos
      holding [v, ov, iv] (setItem ov iv v)
      release [v, ov, iv] []) := by intro _; rfl)
    (hs : swapsWithSole [.Subscript o i tpos] e pos.line X.env = pure false := by rfl) (hw : swappedStores [.Subscript o i tpos] e X.env = pure none := by rfl) (h1 : (assignEach [.Subscript o i tpos] X.env).map (·.2) = [assign (.Subscript o i tpos) X.env] := by rfl) :
    DS X cl E (.Assign [.Subscript o i tpos] e pos) (cSetI fe fo fi) := by
  refine ps_imp (ps_asg he (pg_sub ho hi set_list ha) hs hw h1) fun Dn σ H ⟨W0, H0, W, S, ρ, own, ev, h⟩ => ⟨W0, H0, W, S, ρ, own, ev, (PoS.onE ev h).imp fun dv S1 W1 H1 l1 w1 s1 h1 v rv => ?_⟩
  have ev1 := ev.mono l1 w1 s1
  refine ⟨W0, H0, W1, S1, ρ, own, ev1, (PoS.onE ev1 h1).imp fun d_o S2 W2 H2 l2 w2 s2 h2 ov rov => ?_⟩
  have ev2 := ev1.mono l2 w2 s2
  refine ⟨W0, H0, W2, S2, ρ, own, ev2, (PoS.onE ev2 h2).imp fun di S3 W3 H3 l3 w3 s3 h3 iv riv => ?_⟩
  have ev3 := ev2.mono l3 w3 s3
  have rv3 := (rv.mono (l2.lw w1)).mono (l3.lw w2)
  have ro3 := rov.mono (l3.lw w2)
  cases d_o with
  | «mut» n =>
    cases di with
    | int k =>
      unfold gSetI at h3
      dsimp only at h3
      cases q : S3[n]? with
      | none => rw [q] at h3; exact h3.elim
      | some c =>
        rw [q] at h3
        cases c with
        | dct _ => exact h3.elim
        | lst xs =>
          dsimp only at h3
          cases qj : ixN xs.length k with
          | none => rw [qj] at h3; exact h3.elim
          | some j =>
            rw [qj] at h3
            obtain ⟨a, e1, vs, e2, ra⟩ := s3.at_ n _ q
            cases riv
            cases ro3 with
            | «mut» e0 =>
              rw [e1] at e0; cases e0
              refine ⟨a, vs, k, j, rfl, rfl, e2, by rw [ra.length]; exact qj, ?_⟩
              obtain ⟨l4, w4, s4⟩ := put_cell (o := .lst (vs.set j v)) (c := .lst (xs.set j dv)) w3 s3 e1 (List.getElem?_eq_some_iff.mp q).1 fun lw => ⟨_, upd_same, (ra.mono lw).set (rv3.mono lw) j⟩
              exact h3 W3 _ σ own (l4.lw w3) (ev3.mono l4 w4 s4)
    | _ => exact h3.elim
  | _ => exact h3.elim
end

/-! ### lists of the frame's own -/
def cSetOwn (i : Nat) (fs : Env → M (List D)) : Sm := fun ρ S => onE (fs ρ S) ρ fun ds S' => if ds.length ≤ 16777216 then .go .nx (ρ.set i (.own ds)) S' else .bad
def cApp (i : Nat) (fe : Env → M D) : Sm := fun ρ S => match ρ[i]? with
  | some (.own xs) => onE (fe ρ S) ρ fun d S' => if xs.length < 16777216 then .go .nx (ρ.set i (.own (xs ++ [d]))) S' else .bad
  | _ => .bad
def frzE (i : Nat) (ρ : Env) : Env := match ρ[i]? with
  | some (.own xs) => ρ.set i (.val (.lst xs))
  | _ => ρ
/-- from here on the list stays as it is -/
def cFrz (i : Nat) (f : Sm) : Sm := fun ρ S => f (frzE i ρ) S
theorem Ev.freeze {G : Gx} {W0 W : Wd} {H0 H : Hp} {S : Store} {σ : L2.St} {ρ : Env} {own : Nat → Option Addr} {i : Nat} (e : Ev G W0 H0 W H S σ ρ own) : ∃ W' own', Lw W H W' H ∧ Ev G W0 H0 W' H S σ (frzE i ρ) own' := by
  unfold frzE
  cases q : ρ[i]? with
  | none => exact ⟨W, own, Lw.refl, e⟩
  | some s =>
    cases s with
    | un => exact ⟨W, own, Lw.refl, e⟩
    | val d => exact ⟨W, own, Lw.refl, e⟩
    | own xs =>
      obtain ⟨p, vs, o1, h1, h2, r⟩ := e.so i xs q
      obtain ⟨hB, h0, hn⟩ := e.oB i p o1
      have lw : Lw W H (W.del p) H := ⟨fun _ _ h => h, fun _ h => .inl h.1, fun _ _ h _ => h⟩
      have hl : i < ρ.length := (List.getElem?_eq_some_iff.mp q).1
      refine ⟨W.del p, fun j => if j = i then none else own j, lw, e.w0, ⟨fun a h => e.wk.tr a h.1, fun n a h => ⟨e.wk.rg n a h, fun z => hn n (by rw [← z]; exact h)⟩, e.wk.ij⟩,
        ⟨e.le.ph, e.le.ps, fun a h => ⟨e.le.Bm a h, fun z => ?_⟩, fun a h => e.le.Bn a h.1, e.le.kp⟩, ⟨fun n c h => let ⟨a, h1, h2⟩ := e.st.at_ n c h; ⟨a, h1, h2.same lw fun _ q => q⟩, e.st.top⟩, by simp [e.len], fun j d h => ?_, fun j ds h => ?_, fun j a h => ?_, fun j k a h1 h2 => ?_⟩
      · obtain ⟨o, y⟩ := e.w0.tr a h
        rw [z, h0] at y; cases y
      · by_cases hj : j = i
        · subst hj
          rw [List.getElem?_set_self hl] at h
          cases h
          exact ⟨.ref p, h1, .lst h2 (fun z => z.2 rfl) (r.mono lw)⟩
        · rw [List.getElem?_set_ne (Ne.symm hj)] at h
          obtain ⟨v, h3, h4⟩ := e.sl j d h
          exact ⟨v, h3, h4.mono lw⟩
      · by_cases hj : j = i
        · subst hj
          rw [List.getElem?_set_self hl] at h
          cases h
        · rw [List.getElem?_set_ne (Ne.symm hj)] at h
          obtain ⟨a, us, h3, h4, h5, h6⟩ := e.so j ds h
          exact ⟨a, us, by show (if j = i then none else own j) = some a; rw [if_neg hj]; exact h3, h4, h5, h6.mono lw⟩
      · have h : (if j = i then none else own j) = some a := h
        by_cases hj : j = i
        · rw [if_pos hj] at h; cases h
        · rw [if_neg hj] at h
          obtain ⟨h3, h4, h5⟩ := e.oB j a h
          exact ⟨⟨h3, fun z => hj (e.oi j i a h (by rw [z]; exact o1))⟩, h4, h5⟩
      · have h1 : (if j = i then none else own j) = some a := h1
        have h2 : (if k = i then none else own k) = some a := h2
        by_cases hj : j = i
        · rw [if_pos hj] at h1; cases h1
        · by_cases hk : k = i
          · rw [if_pos hk] at h2; cases h2
          · rw [if_neg hj] at h1; rw [if_neg hk] at h2; exact e.oi j k a h1 h2
/-- a new list of the frame's own -/
theorem Ev.newOwn {G : Gx} {W0 W : Wd} {H0 H : Hp} {S : Store} {σ : L2.St} {ρ : Env} {own : Nat → Option Addr} {i : Nat} {p : Addr} {vs : List V} {ds : List D} (e : Ev G W0 H0 W H S σ ρ own) (hp : H p = none) (r : RpA G W H vs ds) :
    ∃ own', Lw W H (W.add p) (upd H p (.lst vs)) ∧ Ev G W0 H0 (W.add p) (upd H p (.lst vs)) S (σ.set i (some (.ref p))) (ρ.set i (.own ds)) own' := by
  have l := le_add (o := .lst vs) (W := W) hp
  have lw := l.lw e.wk
  have e1 := e.mono l (ok_add e.wk hp) (st_add e.wk e.st hp)
  have nb := e.wk.free hp
  have z0 : H0 p = none := by
    cases q : H0 p with
    | none => rfl
    | some o =>
      rcases e.le.kp p o q with ⟨n, y⟩ | y
      · exact absurd (e.wk.rg n p (e.le.ph n p y)) nb
      · rw [hp] at y; cases y
  refine ⟨fun j => if j = i then some p else own j, lw, e1.w0, e1.wk, e1.le, e1.st, by simp [e1.len], fun j d h => ?_, fun j xs h => ?_, fun j a h => ?_, fun j k a h1 h2 => ?_⟩
  · by_cases hj : j = i
    · subst hj
      have hl : j < ρ.length := by
        have := (List.getElem?_eq_some_iff.mp h).1
        simpa using this
      rw [List.getElem?_set_self hl] at h
      cases h
    · rw [List.getElem?_set_ne (Ne.symm hj)] at h
      obtain ⟨v, h1, h2⟩ := e1.sl j d h
      exact ⟨v, by rw [List.getElem?_set_ne (Ne.symm hj)]; exact h1, h2⟩
  · by_cases hj : j = i
    · subst hj
      have hl : j < ρ.length := by
        have := (List.getElem?_eq_some_iff.mp h).1
        simpa using this
      rw [List.getElem?_set_self hl] at h
      cases h
      exact ⟨p, vs, if_pos rfl, List.getElem?_set_self (by rw [e1.len]; exact hl), upd_same, r.mono lw⟩
    · rw [List.getElem?_set_ne (Ne.symm hj)] at h
      obtain ⟨a, us, h3, h4, h5, h6⟩ := e1.so j xs h
      exact ⟨a, us, by show (if j = i then some p else own j) = some a; rw [if_neg hj]; exact h3, by rw [List.getElem?_set_ne (Ne.symm hj)]; exact h4, h5, h6⟩
  · have h : (if j = i then some p else own j) = some a := h
    by_cases hj : j = i
    · rw [if_pos hj] at h; cases h
      exact ⟨.inr rfl, z0, fun n q => nb (e.wk.rg n p q)⟩
    · rw [if_neg hj] at h; exact e1.oB j a h
  · have h1 : (if j = i then some p else own j) = some a := h1
    have h2 : (if k = i then some p else own k) = some a := h2
    by_cases hj : j = i
    · rw [if_pos hj] at h1; cases h1
      by_cases hk : k = i
      · rw [hj, hk]
      · rw [if_neg hk] at h2
        exact absurd (e.oB k p h2).1 nb
    · rw [if_neg hj] at h1
      by_cases hk : k = i
      · rw [if_pos hk] at h2; cases h2
        exact absurd (e.oB j p h1).1 nb
      · rw [if_neg hk] at h2; exact e.oi j k a h1 h2
/-- .. is changed -/
theorem Ev.putOwn {G : Gx} {W0 W : Wd} {H0 H : Hp} {S : Store} {σ : L2.St} {ρ : Env} {own : Nat → Option Addr} {i : Nat} {xs ds : List D} (e : Ev G W0 H0 W H S σ ρ own) (q : ρ[i]? = some (.own xs)) :
    ∃ p vs, σ[i]? = some (some (.ref p)) ∧ H p = some (.lst vs) ∧ RpA G W H vs xs ∧ ∀ us, RpA G W H us ds → Lw W H W (upd H p (.lst us)) ∧ Ev G W0 H0 W (upd H p (.lst us)) S σ (ρ.set i (.own ds)) own := by
  obtain ⟨p, vs, o1, h1, h2, r⟩ := e.so i xs q
  obtain ⟨hB, h0, hn⟩ := e.oB i p o1
  refine ⟨p, vs, h1, h2, r, fun us ru => ?_⟩
  have lw : Lw W H W (upd H p (.lst us)) := ⟨fun _ _ h => h, fun _ h => .inl h, fun b u h nb => by rw [upd_ne (fun z => nb (by rw [z]; exact hB))]; exact h⟩
  have hl : i < ρ.length := (List.getElem?_eq_some_iff.mp q).1
  refine ⟨lw, e.w0, ⟨fun a h => ?_, e.wk.rg, e.wk.ij⟩, ⟨e.le.ph, e.le.ps, e.le.Bm, e.le.Bn, fun b u h => ?_⟩, ⟨fun n c h => ?_, e.st.top⟩, by simp [e.len], fun j d h => ?_, fun j ys h => ?_, e.oB, e.oi⟩
  · by_cases z : a = p
    · exact ⟨_, by rw [z, upd_same]⟩
    · obtain ⟨u, y⟩ := e.wk.tr a h
      exact ⟨u, by rw [upd_ne z]; exact y⟩
  · rcases e.le.kp b u h with z | z
    · exact .inl z
    · refine .inr ?_
      rw [upd_ne (fun y => by rw [y, h0] at h; cases h)]
      exact z
  · obtain ⟨a, h3, h4⟩ := e.st.at_ n c h
    exact ⟨a, h3, h4.same lw fun u y => by rw [upd_ne (fun z => hn n (by rw [← z]; exact h3))]; exact y⟩
  · have hj : j ≠ i := fun z => by
      subst z
      rw [List.getElem?_set_self hl] at h
      cases h
    rw [List.getElem?_set_ne (Ne.symm hj)] at h
    obtain ⟨v, h3, h4⟩ := e.sl j d h
    exact ⟨v, h3, h4.mono lw⟩
  · by_cases hj : j = i
    · subst hj
      rw [List.getElem?_set_self hl] at h
      cases h
      exact ⟨p, us, o1, h1, upd_same, ru.mono lw⟩
    · rw [List.getElem?_set_ne (Ne.symm hj)] at h
      obtain ⟨a, ws, h3, h4, h5, h6⟩ := e.so j ys h
      exact ⟨a, ws, h3, h4, by rw [upd_ne (fun z => hj (e.oi j i a h3 (by rw [z]; exact o1)))]; exact h5, h6.mono lw⟩
section
variable {X : Cx} {cl : Cls_} {E : WX} {e : Expr} {es : List Expr} {fe : Env → M D} {fs : Env → M (List D)} {gs : Sm} {sts : List Stmt} {pos tpos : Pos}
theorem dss_frz (i : Nat) (h : DSs X cl E sts gs) : DSs X cl E sts (cFrz i gs) := by
  refine pss_imp h fun Dn σ H ⟨W0, H0, W, S, ρ, own, ev, h⟩ => ?_
  obtain ⟨W', own', lw, e'⟩ := ev.freeze (i := i)
  exact ⟨W0, H0, W', S, _, own', e', PoS.step lw h⟩
theorem ds_setOwn (i : Nat) {x : Str} {pos' : Pos} (hN : X.N.Nodup) (hs : DA X cl E es fs) (hi : X.N[i]? = some x := by rfl) (hx : Loc X.env.scope x := by first | exact Or.inl rfl | exact Or.inr rfl) (hsw : swapsWith (.List es tpos) (some (.Name x pos')) pos.line X.env = pure false := by rfl) (hf : X.fn x = true ∨ X.env.scope.names.lookup x = some .local := by first | exact .inl rfl | exact .inr rfl) :
    DS X cl E (.Assign [.Name x pos'] (.List es tpos) pos) (cSetOwn i fs) := by
  refine ps_imp (ps_set (i := i) hN hi hx (pe_lst hs) hsw hf) fun Dn σ H ⟨W0, H0, W, S, ρ, own, ev, h⟩ => ?_
  refine ⟨W0, H0, W, S, ρ, own, ev, (PoS.onE ev h).imp fun ds S1 W1 H1 l1 w1 s1 h1 vs r => ?_⟩
  by_cases c : ds.length ≤ 16777216
  · rw [if_pos c] at h1
    refine ⟨by rw [r.length]; exact isline c, fun p hp => ?_⟩
    obtain ⟨own', lw, e'⟩ := (ev.mono l1 w1 s1).newOwn (i := i) hp r
    exact h1 _ _ _ _ lw e'
  · rw [if_neg c] at h1; exact h1.elim
theorem ds_app (i : Nat) (hp : PE X e (tBM X.K "list" rAppend (tVar i) (tCons (tE ⟨X.K, cl⟩ E fe) tNil))) (hs : swapsWith e none tpos.line X.env = pure false := by rfl) : DS X cl E (.Expr e tpos) (cApp i fe) := by
  refine ps_imp (ps_expr hp hs) fun Dn σ H ⟨W0, H0, W, S, ρ, own, ev, h⟩ => ?_
  have h : PoS ⟨X.K, cl⟩ E W0 H0 W H (cApp i fe ρ S) (wF ⟨X.K, cl⟩ Dn) := h
  unfold cApp at h
  cases q : ρ[i]? with
  | none => rw [q] at h; exact h.elim
  | some sl =>
    rw [q] at h
    cases sl with
    | un => exact h.elim
    | val d => exact h.elim
    | own xs =>
      obtain ⟨p, vs, o1, o2, o3, _⟩ := ev.putOwn (ds := xs) q
      refine ⟨.ref p, o1, .inl ⟨rfl, vs, SqL.of o2⟩, W0, H0, W, S, ρ, own, ev, (PoS.onE ev h).imp fun d S1 W1 H1 l1 w1 s1 h1 v rv => ?_⟩
      have e1 := ev.mono l1 w1 s1
      obtain ⟨p', us, o1', o4, o5, o6⟩ := e1.putOwn (ds := xs ++ [d]) q
      rw [o1] at o1'; cases o1'
      by_cases c : xs.length < 16777216
      · rw [if_pos c] at h1
        refine ⟨p, us, v, rfl, rfl, o4, by rw [o5.length, sizeLine_eq]; exact c, ?_⟩
        obtain ⟨lw, e2⟩ := o6 (us ++ [v]) (o5.app (.cons rv .nil))
        exact h1 _ _ _ _ lw e2
      · rw [if_neg c] at h1; exact h1.elim
end
end DN
/-! DN7: pairs of names at once, texts' methods, repr, {} and other small words; a def as a whole. -/
namespace DN
open PySem PySem.Spec PyProof.Rows L2

/-! ### a, b = x, y -/
def cPar (i j : Nat) (fs : Env → M (List D)) : Sm := fun ρ S => onE (fs ρ S) ρ fun ds S' => match ds with
  | [x, y] => .go .nx ((ρ.set i (.val x)).set j (.val y)) S'
  | _ => .bad
section
variable {X : Cx} {cl : Cls_} {E : WX} {a b e o : Expr} {fe fo : Env → M D} {fs : Env → M (List D)} {pos : Pos}
theorem ds_par (i j : Nat) {x y : Str} {px py pt : Pos} {kt k2 pt2} (hc : X.calm = true) (hN : X.N.Nodup) (ha : DA X cl E [a, b] fs) (hw : swappedStores [.Tuple [.Name x px, .Name y py] kt pt] (.Tuple [a, b] k2 pt2) X.env = pure (some [x, y]) := by rfl)
    (hi : X.N[i]? = some x := by rfl) (hj : X.N[j]? = some y := by rfl) (hij : i ≠ j := by decide) (hx : X.env.scope.names.lookup x = some .local := by rfl) (hy : X.env.scope.names.lookup y = some .local := by rfl)
    (hs : swapsWithSole [.Tuple [.Name x px, .Name y py] kt pt] (.Tuple [a, b] k2 pt2) pos.line X.env = pure false := by rfl) :
    DS X cl E (.Assign [.Tuple [.Name x px, .Name y py] kt pt] (.Tuple [a, b] k2 pt2) pos) (cPar i j fs) := by
  refine ps_imp (ps_par hc hN hi hj hij hx hy ha hw hs) fun Dn σ H ⟨W0, H0, W, S, ρ, own, ev, h⟩ => ?_
  refine ⟨W0, H0, W, S, ρ, own, ev, (PoS.onE ev h).imp fun ds S1 W1 H1 l1 w1 s1 h1 vs r => ?_⟩
  match ds, h1 with
  | [dx, dy], h1 =>
    obtain ⟨v, u, rfl, rv, ru⟩ := r.inv2
    exact ⟨v, u, rfl, h1 _ _ _ _ Lw.refl (((ev.mono l1 w1 s1).set rv).set ru)⟩

/-! ### texts -/
def strsD : List D → Option (List Str)
  | [] => some []
  | .str b :: ds => (strsD ds).map (b :: ·)
  | _ :: _ => none
theorem RpA.strs {G : Gx} {W : Wd} {H : Hp} : ∀ {ds : List D} {vs : List V} {bs : List Str}, RpA G W H vs ds → strsD ds = some bs → vs = bs.map V.str
  | [], _, _, .nil, e => by simp [strsD] at e; subst e; rfl
  | d :: ds, _, bs, .cons r t, e => by
    cases d with
    | str b =>
      simp only [strsD, Option.map_eq_some_iff] at e
      obtain ⟨bs', e1, e2⟩ := e
      subst e2
      cases r
      rw [RpA.strs t e1]; rfl
    | _ => simp [strsD] at e
def joinB (a : Str) (ys : List Str) : M D := if (ys.map (·.length)).sum + ys.length * a.length ≤ 16777216 then M.pure (.str (Txt.join a ys)) else M.bad
def gJoin (a : Str) : D → M D
  | .lst xs => match strsD xs with
    | some ys => joinB a ys
    | none => M.bad
  | .tup xs => match strsD xs with
    | some ys => joinB a ys
    | none => M.bad
  | _ => M.bad
/-- methods of a text -/
def cM0 (g : Str → M D) (fo : Env → M D) : Env → M D := fun ρ => do
  let x ← fo ρ
  match x with
  | .str a => g a
  | _ => M.bad
def cM1 (g : Str → D → M D) (fo fe : Env → M D) : Env → M D := fun ρ => do
  let x ← fo ρ
  match x with
  | .str a => do
    let y ← fe ρ
    g a y
  | _ => M.bad
theorem tM1_of {G : Gx} {r : V → List V → Hp → VK → Prop} {g : Str → D → M D} {σ : L2.St} {H : Hp} {Q : VK} (h : tE G E (cM1 g fo fe) σ H Q)
    (hg : ∀ W H S a y dy, WOk W H → StOk G W H S → Rp G W H y dy → Po G E σ W H (g a dy S) (RV G Q) → r (.str a) [y] H Q) : tM1 r (tE G E fo) (tE G E fe) σ H Q := by
  obtain ⟨W0, H0, W, S, ρ, own, ev, h⟩ := h
  refine ⟨W0, H0, W, S, ρ, own, ev, (Po.bind ev.wk h).imp fun da S1 W1 H1 l1 w1 s1 h1 v rv => ?_⟩
  cases da with
  | str a =>
    cases rv
    exact ⟨⟨a, rfl⟩, W0, H0, W1, S1, ρ, own, ev.mono l1 w1 s1, (Po.bind w1 h1).imp fun db S2 W2 H2 l2 w2 s2 h2 u ru => hg W2 H2 S2 a u db w2 s2 ru h2⟩
  | _ => exact h1.elim
theorem tM0_of {G : Gx} {r : V → List V → Hp → VK → Prop} {g : Str → M D} {σ : L2.St} {H : Hp} {Q : VK} (h : tE G E (cM0 g fo) σ H Q)
    (hg : ∀ W H S a, WOk W H → StOk G W H S → Po G E σ W H (g a S) (RV G Q) → r (.str a) [] H Q) : tM0 r (tE G E fo) σ H Q := by
  refine tE_bind h fun W0 H0 W1 H1 S1 ρ own v d ev rv hh => ?_
  cases d with
  | str a => cases rv; exact ⟨⟨a, rfl⟩, hg W1 H1 S1 a ev.wk ev.st hh⟩
  | _ => exact hh.elim
theorem de_join {apos : Pos} (ho : DE X cl E o fo) (he : DE X cl E e fe) (hs : starEach [e] X.env = [(false, eval e X.env)] := by rfl) (hbase : attributeBase o "join" X.env (eval o X.env) = eval o X.env := by rfl) (hline : (apos.endLine == pos.line) = true := by rfl) :
    DE X cl E (.Call (.Attribute o "join" apos) [e] [] pos) (cM1 gJoin fo fe) := by
  refine pe_imp (pe_join ho he hs hbase hline) fun σ H Q h => tM1_of (G := ⟨X.K, cl⟩) h fun W2 H2 S2 a u db w2 s2 ru h2 => ?_
  cases db with
  | lst xs =>
    unfold gJoin at h2
    dsimp only at h2
    cases q : strsD xs with
    | none => rw [q] at h2; exact h2.elim
    | some ys =>
      rw [q] at h2
      obtain ⟨c, h2⟩ := po_if h2
      cases ru with
      | lst hl _ rl =>
        have e := rl.strs q
        subst e
        exact ⟨a, _, ys, rfl, rfl, .inl (SqL.of hl), c, Po.val w2 s2 h2 (.str _)⟩
  | tup xs =>
    unfold gJoin at h2
    dsimp only at h2
    cases q : strsD xs with
    | none => rw [q] at h2; exact h2.elim
    | some ys =>
      rw [q] at h2
      obtain ⟨c, h2⟩ := po_if h2
      cases ru with
      | tup hl rl =>
        have e := rl.strs q
        subst e
        exact ⟨a, _, ys, rfl, rfl, .inr hl.sq, c, Po.val w2 s2 h2 (.str _)⟩
  | _ => exact h2.elim
def gUpper (a : Str) : M D := if a.length ≤ 5592405 then M.pure (.str (Txt.upper a)) else M.bad
theorem de_upper {apos : Pos} (ho : DE X cl E o fo) (hbase : attributeBase o "upper" X.env (eval o X.env) = eval o X.env := by rfl) (hline : (apos.endLine == pos.line) = true := by rfl) : DE X cl E (.Call (.Attribute o "upper" apos) [] [] pos) (cM0 gUpper fo) :=
  pe_imp (pe_upper ho hbase hline) fun σ H Q h => tM0_of (G := ⟨X.K, cl⟩) h fun W H S a w s h => by
    obtain ⟨c, h⟩ := po_if h
    exact ⟨a, rfl, rfl, c, Po.val w s h (.str _)⟩
end

/-! ### repr of scalars -/
def gRepr : List D → M D
  | [.bl b] => M.pure (.str (if b then "True" else "False"))
  | [.non] => M.pure (.str "None")
  | [.int i] => if i.natAbs.log2 < 1920 then M.pure (.str (toString i)) else M.bad
  | _ => M.bad
section
variable {X : Cx} {cl : Cls_} {K : PySem.W.Frag}
def rRepr : List V → Hp → VK → Prop := fun xs H Q => (∃ b, xs = [.bl b] ∧ Q (.str (if b then "True" else "False")) H) ∨ (xs = [.non] ∧ Q (.str "None") H) ∨ ∃ i, xs = [.int i] ∧ i.natAbs.log2 < 1920 ∧ Q (.str (toString i)) H
theorem call_repr : CallR X (.builtin "repr") rRepr := by
  rintro pins s σ H xs us Q I r (⟨b, rfl, q⟩ | ⟨rfl, q⟩ | ⟨i, rfl, hz, q⟩)
  · obtain ⟨u, rfl, r1⟩ := vals1 r
    cases r1
    exact PySem.P.repr_of_bool ⟨.str _, H, I.tok _, ⟨_, rfl⟩, q⟩
  · obtain ⟨u, rfl, r1⟩ := vals1 r
    cases r1
    exact PySem.P.repr_of_none ⟨.str _, H, I.tok _, ⟨_, rfl⟩, q⟩
  · obtain ⟨u, rfl, t, rfl⟩ := vals1 r
    exact PySem.P.repr_of_int hz ⟨.str _, H, I.tok _, ⟨_, rfl⟩, q⟩
theorem cd_repr : CallD K cl rRepr gRepr := by
  intro E σ W H S vs ds Q w s r h
  match ds, h with
  | [.bl b], h =>
    obtain ⟨v, rfl, rv⟩ := r.inv1
    cases rv
    exact .inl ⟨b, rfl, Po.val w s h (.str _)⟩
  | [.non], h =>
    obtain ⟨v, rfl, rv⟩ := r.inv1
    cases rv
    exact .inr (.inl ⟨rfl, Po.val w s h (.str _)⟩)
  | [.int i], h =>
    obtain ⟨v, rfl, rv⟩ := r.inv1
    cases rv
    obtain ⟨c, h⟩ := po_if h
    exact .inr (.inr ⟨i, rfl, c, Po.val w s h (.str _)⟩)
/-! ### {} -/
theorem de_dnew {E : WX} {pos : Pos} : DE X cl E (.Dict [] [] pos) (cC (.dct [])) := by
  refine pe_imp pe_dnewK fun σ H Q ⟨W0, H0, W, S, ρ, own, ev, h⟩ p hp => ?_
  exact Po.new ev.wk ev.st h hp (.dct upd_same (ev.wk.free hp) .nil)
end

/-! ### a def as a whole -/
/-- the def x of the module, as the statement st, with the parameters ps -/
structure Fd (K : PySem.W.Frag) (mg : Str → Option Value) (x qual : Str) (st : Stmt) (ps : List Str) : Prop where
  ex : ∃ f fd, Fun K x qual st f fd ∧ mg x = some (.ref f) ∧ PySem.W.keepIn K (.ref f) = true ∧ Binds K fd ps []
/-- the def x of the module is worth F -/
structure Cal (P : Program) (w : World) (K : PySem.W.Frag) (mg : Str → Option Value) (base : Heap) (cl : Cls_) (x : Str) (k : Nat) (ps : List Str) (F : List D → M D) : Prop where
  ex : ∃ f fd, FnD P w K mg base cl k f fd ps F ∧ mg x = some (.ref f) ∧ PySem.W.keepIn K (.ref f) = true ∧ Binds K fd ps []
section
variable {P : Program} {w : World} {K : PySem.W.Frag} {mg : Str → Option Value} {base : Heap} {cl : Cls_}
theorem Fd.cal {x qual : Str} {st : Stmt} {N ps : List Str} {k : Nat} {body : Sm} (F : Fd K mg x qual st ps) (S : FnScope N ps (defScope st))
    (hb : ∀ (f : Addr) (cdv : Value) (A : Around) (outer : List PySem.Env) (s : Shared) (H : Hp) (E : XK), Room k (A.deeper (envOfC qual (defScope st) s.heap.objs.size f cdv)) → DSs (cxD P w K mg base N qual st f cdv A outer s H E) cl (fun c d _ H => E c d H) (defBody st) body) :
    Cal P w K mg base cl x (k + 1) ps (runF ps.length N.length body) := by
  obtain ⟨f, fd, F, m, kp, b⟩ := F.ex
  exact ⟨f, fd, fn_D F S fun cdv A outer s H E hr => hb f cdv A outer s H E hr, m, kp, b⟩
/-- .. by another word for it -/
theorem Cal.imp {x : Str} {k : Nat} {ps : List Str} {F F' : List D → M D} (C : Cal P w K mg base cl x k ps F) (h : ∀ ds S, ds.length = ps.length → F' ds S ≠ .bad → F ds S = F' ds S) : Cal P w K mg base cl x k ps F' := by
  obtain ⟨f, fd, G, m, kp, b⟩ := C.ex
  refine ⟨f, fd, G.imp fun vs H Q E ⟨W, S, ds, w0, s0, r, e, q⟩ => ⟨W, S, ds, w0, s0, r, e, ?_⟩, m, kp, b⟩
  rw [h ds S e (fun z => by rw [z] at q; exact q)]
  exact q
theorem de_cal {X : Cx} {cl : Cls_} {E : WX} {k n : Nat} {ps : List Str} {x : Str} {p pos : Pos} {e : Expr} {es : List Expr} {fs : Env → M (List D)} {F : List D → M D} (C : Cal X.prog X.w X.K X.mg X.base cl x k ps F) (hr : Room k X.A) (tk : Takes X E) (ha : DA X cl E (e :: es) fs) (hn : ps.length = n := by rfl) (hg : Gl X x := by rfl) (hdb : (x == ("__debug__" : Str)) = false := by decide)
    (he : starEach (e :: es) X.env = (false, eval e X.env) :: starEach es X.env := by rfl) (hpl : (backTo pos (starEach es X.env)).any (·.1) = false := by rfl) : DE X cl E (.Call (.Name x p) (e :: es) [] pos) (cCall n F fs) := by
  obtain ⟨f, fd, G, m, kp, b⟩ := C.ex
  subst hn
  exact de_call G hr m kp b tk ha hg hdb he hpl
end
end DN
/-! DN8: the end of a law row. -/
namespace DN
open PySem PySem.Spec PyProof.Rows L2

theorem law_sp {K : PySem.W.Frag} {cl : Cls_} {F : List D → M D} {n : Nat} (main : ∀ ns : List Int, ns.length ≤ n → ∃ S', F [.scr ns] [] = .ok (.bl true) S') {H : Hp} {a : Addr} {ns : List Int} (hl : ns.length ≤ n) (hS : SqL K H a (ns.map V.int)) :
    spD ⟨K, cl⟩ 1 F [.ref a] H (fun v _ => v = .bl true) fun _ _ _ => False := by
  obtain ⟨S', e⟩ := main ns hl
  refine ⟨⟨fun _ => none, fun _ => False⟩, [], [.scr ns], ⟨fun _ h => h.elim, fun _ _ h => (nomatch h), fun _ _ _ h => (nomatch h)⟩, ⟨fun _ _ h => (nomatch h), fun _ _ => rfl⟩, .cons (.scr ?_) .nil, rfl, ?_⟩
  · rcases hS with h | h
    · exact .inl ⟨h, fun z => z⟩
    · exact .inr h
  · rw [e]
    intro W' H' l w s v rv
    cases rv; rfl
theorem no_cx {P : Program} {w : World} {H : Hp} {s : Shared} {e : Value} {s' : Shared} (h : L2.CX P w [] H s (fun _ _ _ => False) e s') : False := by
  obtain ⟨_, _, _, _, _, _, _, _, _, _, _, _, z⟩ := h
  exact z
theorem walk_D {l : PySem.W.OpenLaw} {n k : Nat} {q : Program} {loose : List Str} {XP : (Str → Option Value) → Heap → Prop} {YP : World → Heap → Prop} {d : DefRec} {K : Params → PySem.W.Frag} {cl : PySem.W.Frag → Cls_} {F : List D → M D} (hn : l.most = some n) (hn2 : n ≤ sizeLine) (hdf : d.params.defaults = []) (hr : Room k callerA)
    (hY : ∀ (w : World) (h : Heap), YP w h → (K w.params).In h) (main : ∀ ns : List Int, ns.length ≤ n → ∃ S', F [.scr ns] [] = .ok (.bl true) S')
    (FF : ∀ (w : World) (mg : Str → Option Value) (fa : Addr) (h : Heap), (K w.params).In h → h.Ns mainGlobals mg → mg d.name = some (.ref fa) →
      ∃ fd : FuncData, (∀ (s : Shared) (u : Value), BindsTo s fd ⟨[u], []⟩ [("script", u)]) ∧ ∀ base : Heap, (K w.params).In base → base.Ns mainGlobals mg → FnD l.prog w (K w.params) mg base (cl (K w.params)) k fa fd ["script"] F) :
    PySem.W.WalkO q loose XP YP l.row.toRowW d [] (fun f vs => PySem.call f vs) :=
  L2.walk_of (n := n) (k := k) (x := "script") (K := K) (CX := fun w => L2.CX l.prog w) (sp := fun w => spD ⟨K w.params, cl (K w.params)⟩ 1 F) hn hn2 hdf hr hY FF (fun w H a ns hl hO hS => law_sp main hl hS) fun w H s e s' h => no_cx h
/-- the classes by their names in the module -/
def clK (K : PySem.W.Frag) : Cls_ := fun c => match PySem.W.nsIn K mainGlobals c with
  | some (some (.ref a)) => some a
  | _ => none
end DN
/-! DR: what is not looked at (bad), turned sequences, pairs with a list of one's own. -/
namespace DN
open PySem PySem.Spec PyProof.Rows L2
def cBad {α : Type} : Env → M α := fun _ => M.bad
def cBadS : Sm := fun _ _ => .bad
section
variable {X : Cx} {cl : Cls_} {E : WX} {e : Expr} {st : Stmt}
theorem de_bad : DE X cl E e cBad := ⟨fun _ _ _ _ _ _ ⟨_, _, _, _, _, _, _, h⟩ => h.elim⟩
theorem ds_bad : DS X cl E st cBadS := ⟨fun _ _ _ _ _ _ ⟨_, _, _, _, _, _, _, h⟩ => h.elim⟩
end

/-! ### t[::-1] -/
section
open PySem.Builtin.Slice
theorem rv_adjust (n : Nat) : sliceAdjust none none (-1) (n : Int) = ((n : Int) - 1, -1) := by
  unfold sliceAdjust
  rfl
theorem rv_places (n : Nat) : slicePlaces ((n : Int) - 1) (-1) (-1) = n := by
  unfold slicePlaces
  have a : ¬ (-1 : Int) > 0 := by omega
  rw [if_neg a]
  by_cases hn : n = 0
  · subst hn; rfl
  · have b : ((n : Int) - 1) > -1 := by omega
    rw [if_pos b, show (- -1 : Int) = 1 by decide, Int.ediv_one]
    omega
theorem fm_congr {α β : Type} {f g : α → Option β} : ∀ {xs : List α}, (∀ x ∈ xs, f x = g x) → xs.filterMap f = xs.filterMap g
  | [], _ => rfl
  | x :: xs, h => by
    have a := h x List.mem_cons_self
    have b := fm_congr (xs := xs) fun y hy => h y (List.mem_cons_of_mem _ hy)
    rw [List.filterMap_cons, List.filterMap_cons, a, b]
theorem rv_list (xs : Array Value) : ((List.range xs.size).filterMap fun (m : Nat) => xs[(((xs.size : Nat) : Int) - 1 + (m : Int) * -1).toNat]?) = xs.toList.reverse := by
  have e : ((List.range xs.size).filterMap fun (m : Nat) => xs[(((xs.size : Nat) : Int) - 1 + (m : Int) * -1).toNat]?) = (List.range xs.toList.reverse.toArray.size).filterMap fun m => xs.toList.reverse.toArray[m]? := by
    have f : xs.toList.reverse.toArray.size = xs.size := by simp
    rw [f]
    refine fm_congr fun m hm => ?_
    have hm := List.mem_range.mp hm
    have q : (((xs.size : Nat) : Int) - 1 + (m : Int) * -1).toNat = xs.toList.length - 1 - m := by rw [Array.length_toList]; omega
    rw [q, ← Array.getElem?_toList]
    have g : xs.toList.reverse.toArray[m]? = xs.toList.reverse[m]? := by simp
    rw [g, List.getElem?_reverse (by rw [Array.length_toList]; exact hm)]
  rw [e, PySem.W.krv_all]
variable {prog : Program} {w : World} {A : Around} {XE : Value → Shared → Prop} {s : Shared}
theorem rv_applied {sl : Addr} {vs : Value} {n : Nat} {Q : Int × Int × Nat → Shared → Prop} (hs : s.heap.IsSliceOf sl .none .none vs) (ps : IsPart vs (some (-1))) (h : Q ((n : Int) - 1, -1, n) s) :
    wpAny (model prog w) A (sliceApplied (.ref sl) (pure (n : Int))) Q XE s := by
  obtain ⟨o, ho, hc, hd⟩ := id hs
  unfold sliceApplied sliceFields
  refine wpAny_bind (wpAny_bind (wpAny_field ho hd (x := .none) rfl ?_))
  refine wpAny_bind (wpAny_field ho hd (x := .none) rfl (wpAny_bind (wpAny_field ho hd (x := vs) rfl (wpAny_pure ?_))))
  refine wpAny_bind (HT.slicePart_ ps ?_)
  show wpAny _ _ (if ((-1 : Int) == 0) = true then _ else _) _ _ s
  rw [if_neg (by decide)]
  refine wpAny_bind (HT.slicePart_ .none ?_)
  refine wpAny_bind (HT.slicePart_ .none ?_)
  refine wpAny_bind (wpAny_pure ?_)
  show wpAny _ _ (match sliceAdjust none none (-1) (n : Int) with | (lo, hi) => pure (lo, (-1 : Int), slicePlaces lo hi (-1))) _ _ s
  rw [rv_adjust]
  show wpAny _ _ (pure ((n : Int) - 1, (-1 : Int), slicePlaces ((n : Int) - 1) (-1) (-1))) _ _ s
  rw [rv_places]
  exact wpAny_pure h
theorem rv_tuple {t sl : Addr} {items : Array Value} {vs : Value} {Q : Value → Shared → Prop} (ht : IsTup s.heap t items) (hs : s.heap.IsSliceOf sl .none .none vs) (ps : IsPart vs (some (-1)))
    (h : Q (.ref s.heap.objs.size) { s with heap := s.heap.push { cls := .type "tuple", data := .seq items.toList.reverse.toArray } }) (hsz : items.size ≤ sizeLine) : wpAny (model prog w) A (getItem (.ref t) (.ref sl)) Q XE s := by
  have fit : sizeOk (.seq items.toList.reverse.toArray) := by
    show items.toList.reverse.toArray.size ≤ sizeLine
    rw [List.size_toArray, List.length_reverse, Array.length_toList]
    exact hsz
  obtain ⟨o, ho, hc, hd⟩ := id hs
  have hT : s.TypeIs (.ref sl) "slice" := ⟨o, ho, hc⟩
  unfold getItem
  try with_reducible refine wpAny_holding ?_
  first | refine wpAny_bind (wpAny_pure ?_) | skip
  refine wpAny_bind (wpAny_sequenceKey ht.typeIs (by decide) ?_)
  refine wpAny_bind (wpAny_callSpecial?_slot (name := Str.ofString "__getitem__") ht.typeIs PyProof.Rows.slot_tuple_getitem (wpAny_call_entry PyProof.Rows.slot_tuple_getitem ht.typeIs entry_tuple_getitem ?_ (args_tuple_getitem _ _)))
  show wpAny _ _ (Builtin.Tuple.tupleItemsOf (.ref t) >>= _) _ _ s
  refine wpAny_bind (tupleItemsOf_ ht (wpAny_bind (wpAny_typeOf hT ?_)))
  rw [if_pos (by decide)]
  refine wpAny_bind (rv_applied hs ps ?_)
  have no : ¬ ((((items.size : Nat) : Int) - 1 == 0 && (-1 : Int) == 1 && items.size == items.size) = true) := by
    intro q
    rw [Bool.and_eq_true, Bool.and_eq_true] at q
    have := q.1.2
    revert this
    decide
  show wpAny _ _ (if (((items.size : Nat) : Int) - 1 == 0 && (-1 : Int) == 1 && items.size == items.size) = true then _ else _) _ _ s
  rw [if_neg no, rv_list]
  first
    | exact wpAny_bind (m := Builtin.Tuple.tupleExact _) (wpAny_newObj_type (wpAny_pure ⟨_, rfl, wpAny_pure h⟩) fit)
    | exact wpAny_bind (m := Builtin.Tuple.tupleExact _) (wpAny_newObj_type (wpAny_bind (wpAny_pure (wpAny_pure ⟨_, rfl, wpAny_pure h⟩))) fit)
    | exact wpAny_bind (wpAny_bind (m := Builtin.Tuple.tupleExact _) (wpAny_newObj_type (wpAny_pure (wpAny_pure ⟨_, rfl, wpAny_pure h⟩)) fit))
    | exact wpAny_bind (wpAny_bind (m := Builtin.Tuple.tupleExact _) (wpAny_newObj_type (wpAny_pure ⟨_, rfl, wpAny_pure h⟩) fit))
end
def tRevT (K : PySem.W.Frag) (te : TE) : TE := fun σ H Q => te σ H fun x H1 => ∃ a xs, x = .ref a ∧ ((SqL K H1 a xs ∧ ∀ p, H1 p = none → Q (.ref p) (upd H1 p (.lst xs.reverse))) ∨ (SqT K H1 a xs ∧ ∀ p, H1 p = none → Q (.ref p) (upd H1 p (.tup xs.reverse))))
section
variable {X : Cx}
theorem pe_revA {e : Expr} {te : TE} {k : Nat} {p1 p2 p3 pos : Pos} (he : PE X e te) : PE X (.Subscript e (.Slice none none (some (.UnaryOp .USub (.Constant (.int 1) k p1) p2)) p3) pos) (tRevT X.K te) := by
  refine ⟨fun pins s σ H Q I h => Subscript_ (thn (he.run pins s σ H _ I h) fun v s1 ⟨x, H1, I1, r1, a, xs, ex, q⟩ => ?_)⟩
  subst ex
  cases r1
  have hst : PO X (some (.UnaryOp .USub (.Constant (.int 1) k p1) p2)) (tPart (tUn (rU fun i => .int (-i)) (tC (.int 1)))) := po_some (pe_un un_neg pe_int)
  refine wpAny_Slice (thn (po_none.run pins s1 σ H1 (fun o K2 => o = none ∧ K2 = H1) I1 ⟨rfl, rfl⟩) fun vl s2 ⟨l, H2, I2, pl, el, e2⟩ => ?_)
  subst el e2
  refine thn (po_none.run pins s2 σ H2 (fun o K3 => o = none ∧ K3 = H2) I2 ⟨rfl, rfl⟩) fun vu s3 ⟨u, H3, I3, pu, eu, e3⟩ => ?_
  subst eu e3
  refine thn (hst.run pins s3 σ H3 (fun o K4 => o = some (-1) ∧ K4 = H3) I3 ⟨1, rfl, -1, rfl, rfl, rfl⟩) fun vs s4 ⟨o, H4, I4, ps, eo, e4⟩ => ?_
  subst eo e4
  have I5 : Inv X pins σ H4 { s4 with heap := s4.heap.push { cls := .type "slice", data := .fields #[vl, vu, vs] } } := I4.kept (t' := s4.toks) fun b ob q => Heap.get?_push_of_some _ q
  show wpAny (model X.prog X.w) X.A (subscriptTail e (.Slice none none (some (.UnaryOp .USub (.Constant (.int 1) k p1) p2)) p3) (.ref a) (.ref s4.heap.objs.size)) (EP X pins σ Q) X.xe { s4 with heap := s4.heap.push { cls := .type "slice", data := .fields #[vl, vu, vs] } }
  rcases q with ⟨hx, q⟩ | ⟨hx, q⟩
  · obtain ⟨its, r, ht, hz⟩ := I5.list hx
    have hlen := r.length
    refine tail_any (ops := [.ref a, .ref s4.heap.objs.size]) ht.isList.typeIs (PySem.slot_list_getitem.lookup) ?_ (by with_unfolding_all rfl)
    refine wpAny_getItem_list_slice ht.isList (Heap.IsSliceOf.new _ vl vu vs) pl pu ps (by decide) ?_ (by rw [List.size_toArray]; omega)
    rw [PySem.W.krv_pick]
    refine ⟨.ref _, _, I5.laid (t' := s4.toks) (o := .lst xs.reverse) (fun b ob z => Heap.get?_push_of_some _ z) (Nat.le_refl _) ?_, rfl, q _ (I5.hok.fresh (Nat.le_refl _))⟩
    exact ⟨by rw [List.length_reverse]; exact hz, _, 0, r.reverse, Heap.get?_push_size _ rfl⟩
  · obtain ⟨its, r, ht, hz⟩ := I5.tuple hx
    have hlen := r.length
    refine tail_any (ops := [.ref a, .ref s4.heap.objs.size]) ht.typeIs (PyProof.Rows.slot_tuple_getitem.lookup) ?_ (by with_unfolding_all rfl)
    cases pl
    cases pu
    refine rv_tuple ht (Heap.IsSliceOf.new _ .none .none vs) ps ?_ (by rw [List.size_toArray]; omega)
    refine ⟨.ref _, _, I5.laid (t' := s4.toks) (o := .tup xs.reverse) (fun b ob z => Heap.get?_push_of_some _ z) (Nat.le_refl _) ?_, rfl, q _ (I5.hok.fresh (Nat.le_refl _))⟩
    exact ⟨by rw [List.length_reverse]; exact hz, _, r.reverse, IsTup.new _ _⟩
end
def gRev : D → M D
  | .tup xs => M.pure (.tup xs.reverse)
  | .lst xs => M.pure (.lst xs.reverse)
  | _ => M.bad
section
variable {X : Cx} {cl : Cls_} {E : WX} {a : Expr} {fa : Env → M D}
theorem de_rev {k : Nat} {p1 p2 p3 pos : Pos} (ha : DE X cl E a fa) : DE X cl E (.Subscript a (.Slice none none (some (.UnaryOp .USub (.Constant (.int 1) k p1) p2)) p3) pos) (c1 gRev fa) := by
  refine pe_imp (pe_revA ha) fun σ H Q h => ?_
  refine tE_bind h fun W0 H0 W1 H1 S1 ρ own x dx ev rx h1 => ?_
  cases dx with
  | tup xs =>
    cases rx with
    | @tup p vs _ hp rp => exact ⟨p, vs, rfl, .inr ⟨hp.sq, fun q hq => Po.new ev.wk ev.st h1 hq (Rp.newTup ev.wk hq rp.rev)⟩⟩
  | lst xs =>
    cases rx with
    | @lst p vs _ hp _ rp => exact ⟨p, vs, rfl, .inl ⟨.inl (.inl hp), fun q hq => Po.new ev.wk ev.st h1 hq (Rp.newLst ev.wk hq rp.rev)⟩⟩
  | _ => exact h1.elim
end

/-! ### a, b = [..], e : a is a list of one's own -/
theorem Ev.ownAt {G : Gx} {W0 W : Wd} {H0 H : Hp} {S : Store} {σ : L2.St} {ρ : Env} {own : Nat → Option Addr} {i : Nat} {p : Addr} {vs : List V} {ds : List D} (e : Ev G W0 H0 W H S σ ρ own)
    (hB : W.B p) (z0 : H0 p = none) (hn : ∀ n, W.phi n ≠ some p) (ho : ∀ j, own j ≠ some p) (hH : H p = some (.lst vs)) (r : RpA G W H vs ds) :
    Ev G W0 H0 W H S (σ.set i (some (.ref p))) (ρ.set i (.own ds)) (fun j => if j = i then some p else own j) := by
  refine ⟨e.w0, e.wk, e.le, e.st, by simp [e.len], fun j d h => ?_, fun j xs h => ?_, fun j a h => ?_, fun j k a h1 h2 => ?_⟩
  · by_cases hj : j = i
    · subst hj
      have hl : j < ρ.length := by have := (List.getElem?_eq_some_iff.mp h).1; simpa using this
      rw [List.getElem?_set_self hl] at h
      cases h
    · rw [List.getElem?_set_ne (Ne.symm hj)] at h ⊢
      exact e.sl j d h
  · by_cases hj : j = i
    · subst hj
      have hl : j < ρ.length := by have := (List.getElem?_eq_some_iff.mp h).1; simpa using this
      rw [List.getElem?_set_self hl] at h
      cases h
      exact ⟨p, vs, if_pos rfl, List.getElem?_set_self (by rw [e.len]; exact hl), hH, r⟩
    · rw [List.getElem?_set_ne (Ne.symm hj)] at h
      obtain ⟨a, us, h3, h4, h5, h6⟩ := e.so j xs h
      exact ⟨a, us, (if_neg hj).trans h3, by rw [List.getElem?_set_ne (Ne.symm hj)]; exact h4, h5, h6⟩
  · have h : (if j = i then some p else own j) = some a := h
    by_cases hj : j = i
    · rw [if_pos hj] at h
      cases h
      exact ⟨hB, z0, hn⟩
    · rw [if_neg hj] at h
      exact e.oB j a h
  · have h1 : (if j = i then some p else own j) = some a := h1
    have h2 : (if k = i then some p else own k) = some a := h2
    by_cases hj : j = i <;> by_cases hk : k = i
    · rw [hj, hk]
    · rw [if_pos hj] at h1; rw [if_neg hk] at h2; cases h1; exact absurd h2 (ho k)
    · rw [if_neg hj] at h1; rw [if_pos hk] at h2; cases h2; exact absurd h1 (ho j)
    · rw [if_neg hj] at h1; rw [if_neg hk] at h2; exact e.oi j k a h1 h2
def cParO (i j : Nat) (fs : Env → M (List D)) (fe : Env → M D) : Sm := fun ρ S => onE (fs ρ S) ρ fun ds S1 => if ds.length ≤ 16777216 then onE (fe ρ S1) ρ fun d S2 => .go .nx ((ρ.set i (.own ds)).set j (.val d)) S2 else .bad
section
variable {X : Cx} {cl : Cls_} {E : WX} {es : List Expr} {b : Expr} {fs : Env → M (List D)} {fe : Env → M D} {pos : Pos}
theorem ds_parO (i j : Nat) {x y : Str} {px py pt lp : Pos} {kt k2 pt2} (hc : X.calm = true) (hN : X.N.Nodup) (hs : DA X cl E es fs) (he : DE X cl E b fe) (hw : swappedStores [.Tuple [.Name x px, .Name y py] kt pt] (.Tuple [.List es lp, b] k2 pt2) X.env = pure (some [x, y]) := by rfl)
    (hi : X.N[i]? = some x := by rfl) (hj : X.N[j]? = some y := by rfl) (hij : i ≠ j := by decide) (hx : X.env.scope.names.lookup x = some .local := by rfl) (hy : X.env.scope.names.lookup y = some .local := by rfl)
    (hss : swapsWithSole [.Tuple [.Name x px, .Name y py] kt pt] (.Tuple [.List es lp, b] k2 pt2) pos.line X.env = pure false := by rfl) (s1 : starEach [.List es lp, b] X.env = (false, eval (.List es lp) X.env) :: starEach [b] X.env := by rfl) (s2 : starEach [b] X.env = (false, eval b X.env) :: starEach [] X.env := by rfl) :
    DS X cl E (.Assign [.Tuple [.Name x px, .Name y py] kt pt] (.Tuple [.List es lp, b] k2 pt2) pos) (cParO i j fs fe) := by
  refine ps_imp (ps_par hc hN hi hj hij hx hy (pa_cons (pe_lst hs) (pa_cons he pa_nil s2) s1) hw hss) fun Dn σ H ⟨W0, H0, W, S, ρ, own, ev, h⟩ => ?_
  refine ⟨W0, H0, W, S, ρ, own, ev, (PoS.onE ev h).imp fun ds S1 W1 H1 l1 w1 s1 h1 vs r => ?_⟩
  by_cases c : ds.length ≤ 16777216
  · rw [if_pos c] at h1
    refine ⟨by rw [r.length]; exact isline c, fun p hp => ?_⟩
    have ev1 := ev.mono l1 w1 s1
    have lp := le_add (o := .lst vs) (W := W1) hp
    have ev2 := ev1.mono lp (ok_add w1 hp) (st_add w1 s1 hp)
    have nb := w1.free hp
    refine ⟨W0, H0, W1.add p, S1, ρ, own, ev2, (PoS.onE ev2 (PoS.step (lp.lw w1) h1)).imp fun d S2 W2 H2 l2 w2 s2 h2 v rv => ⟨.ref p, v, rfl, ?_⟩⟩
    have hn : ∀ n, W2.phi n ≠ some p := fun n q => by
      rcases l2.ps n p q with z | z
      · exact nb (w1.rg n p z)
      · rw [upd_same] at z; cases z
    have hH : H2 p = some (.lst vs) := by
      rcases l2.kp p _ upd_same with ⟨n, z⟩ | z
      · exact absurd (w1.rg n p z) nb
      · exact z
    have z0 : H0 p = none := by
      cases q : H0 p with
      | none => rfl
      | some o =>
        rcases ev1.le.kp p o q with ⟨n, y⟩ | y
        · exact absurd (w1.rg n p (ev1.le.ph n p y)) nb
        · rw [hp] at y; cases y
    have ho : ∀ j, own j ≠ some p := fun j q => nb (ev1.oB j p q).1
    have ev3 := (ev2.mono l2 w2 s2).ownAt (i := i) (l2.Bm p (.inr rfl)) z0 hn ho hH ((r.mono (lp.lw w1)).mono (l2.lw ev2.wk))
    exact h2 _ _ _ _ Lw.refl (ev3.set rv)
  · rw [if_neg c] at h1; exact h1.elim
end

/-! ### lists of different lengths are not equal, whatever they hold -/
def eqX (x y : D) : Option Bool := match eqD x y with
  | some b => some b
  | none => match x, y with
    | .lst xs, .lst ys => if xs.length = ys.length then none else some false
    | _, _ => none
def gEqX (x y : D) : M D := match eqX x y with
  | some b => M.pure (.bl b)
  | none => M.bad
def gNeX (x y : D) : M D := match eqX x y with
  | some b => M.pure (.bl (!b))
  | none => M.bad
def rEqX (K : PySem.W.Frag) : R2 := fun x y H Q => rEqD K x y H Q ∨ ∃ l b xs zs, x = .ref l ∧ y = .ref b ∧ H l = some (.lst xs) ∧ H b = some (.lst zs) ∧ xs.length ≠ zs.length ∧ Q (.bl false) H
section
variable {X : Cx}
theorem op_eqX (hu : X.A.units + 64 < cLine) : OpR X (compareOp .Eq) (rEqX X.K) := by
  refine (op_eqD hu).or ?_
  intro pins s σ H x y v u Q I rx ry ⟨l, b, xs, zs, ex, ey, hH, hB, hz, q⟩
  subst ex ey
  cases rx
  cases ry
  obtain ⟨z, its, n, r, hl, e⟩ := I.lstM hH
  obtain ⟨z2, its2, n2, r2, hl2, e2⟩ := I.lstM hB
  have k1 := r.length
  have k2 := r2.length
  refine PySem.P.eq_list_lengths e e2 ?_ (by omega) ⟨.bl false, H, I, rfl, q⟩
  rw [List.size_toArray, List.size_toArray]
  exact bne_iff_ne.mpr (by omega)
end
theorem od_eqX {K : PySem.W.Frag} {cl : Cls_} : OpD K cl (rEqX K) gEqX := by
  intro E σ W H S x y dx dy Q w s rx ry h
  unfold gEqX eqX at h
  cases q1 : eqD dx dy with
  | some b =>
    rw [q1] at h
    refine .inl (od_eq E σ W H S x y dx dy Q w s rx ry ?_)
    unfold gEq
    rw [q1]
    exact h
  | none =>
    rw [q1] at h
    cases dx with
    | lst xs =>
      cases dy with
      | lst ys =>
        dsimp only at h
        by_cases c : xs.length = ys.length
        · rw [if_pos c] at h; exact h.elim
        · rw [if_neg c] at h
          cases rx with
          | @lst a vs _ ha _ ra =>
            cases ry with
            | @lst b us _ hb _ rb =>
              exact .inr ⟨a, b, vs, us, rfl, rfl, ha, hb, by rw [ra.length, rb.length]; exact c, Po.val w s h (.bl _)⟩
      | _ => exact h.elim
    | _ => exact h.elim

/-- a list made in place for a name that an inner block sees -/
theorem sw_cell {elt : Expr} {gs : List Comprehension} {scope : Scope} {pos py : Pos} {y : Str} {l : Nat} {env : PySem.Env} (hy : env.scope.names.lookup y = some .cell) : swapsWith (.ListComp elt gs scope pos) (some (.Name y py)) l env = pure false := by
  have ky : env.kindOf y = some .cell := hy
  have no : ((some NameKind.cell : Option NameKind) == some NameKind.local) = false := by decide
  unfold swapsWith
  simp only [ky, no, Bool.and_false, Bool.false_and]
end DN
/-! DM: a logic of the combinators: what holds of results, under a word about the store. -/
namespace DN
open PySem PySem.Spec PyProof.Rows L2

abbrev XP := Str → List (Str × D) → Prop
abbrev X0 : XP := fun _ _ => False
/-- from each store under I: a result with P, or an exception with X, and I again -/
structure Wp {α : Type} (I : Store → Prop) (m : M α) (P : α → Prop) (X : XP := X0) : Prop where
  at_ : ∀ S, I S → match m S with
  | .ok a S' => P a ∧ I S'
  | .exc c fs S' => X c fs ∧ I S'
  | .bad => False
/-- .. of statements -/
structure Ws (I : Store → Prop) (m : Store → RS) (P : Fl → Env → Prop) (X : XP := X0) : Prop where
  at_ : ∀ S, I S → match m S with
  | .go f ρ S' => P f ρ ∧ I S'
  | .exc c fs _ S' => X c fs ∧ I S'
  | .bad => False
section
variable {α β : Type} {I : Store → Prop} {X : XP}
theorem Wp.pure {a : α} {P : α → Prop} (h : P a) : Wp I (M.pure a) P X := Wp.mk fun S i => ⟨h, i⟩
theorem Wp.ret {a : α} {P : α → Prop} (h : P a) : Wp I (Pure.pure a) P X := Wp.mk fun S i => ⟨h, i⟩
theorem Wp.bind {m : M α} {k : α → M β} {P : β → Prop} (h : Wp I m (fun a => Wp I (k a) P X) X) : Wp I (m >>= k) P X := Wp.mk fun S i => by
  have h1 := h.at_ S i
  rw [bind_run]
  cases q : m S with
  | ok a S' => rw [q] at h1; exact h1.1.at_ S' h1.2
  | exc c fs S' => rw [q] at h1; exact h1
  | bad => rw [q] at h1; exact h1
theorem Wp.imp {m : M α} {P P' : α → Prop} {X' : XP} (h : Wp I m P X) (i : ∀ a, P a → P' a) (ix : ∀ c fs, X c fs → X' c fs) : Wp I m P' X' := Wp.mk fun S s => by
  have h1 := h.at_ S s
  cases q : m S with
  | ok a S' => rw [q] at h1; exact ⟨i _ h1.1, h1.2⟩
  | exc c fs S' => rw [q] at h1; exact ⟨ix _ _ h1.1, h1.2⟩
  | bad => rw [q] at h1; exact h1
theorem Wp.mono {m : M α} {P P' : α → Prop} (h : Wp I m P X0) (i : ∀ a, P a → P' a) : Wp I m P' X := h.imp i fun _ _ z => z.elim
/-- a run -/
theorem Wp.run {m : M α} {P : α → Prop} {S : Store} (h : Wp I m P X0) (i : I S) : ∃ a S', m S = .ok a S' ∧ P a ∧ I S' := by
  have h1 := h.at_ S i
  cases q : m S with
  | ok a S' => rw [q] at h1; exact ⟨a, S', rfl, h1⟩
  | exc c fs S' => rw [q] at h1; exact h1.1.elim
  | bad => rw [q] at h1; exact h1.elim
theorem Wp.if_ {c : Prop} [Decidable c] {m n : M α} {P : α → Prop} (h1 : c → Wp I m P X) (h2 : ¬ c → Wp I n P X) : Wp I (if c then m else n) P X := by
  by_cases hc : c
  · rw [if_pos hc]; exact h1 hc
  · rw [if_neg hc]; exact h2 hc
theorem Wp.chk {c : Prop} [Decidable c] {m : M α} {P : α → Prop} (hc : c) (h1 : Wp I m P X) : Wp I (if c then m else M.bad) P X := by rw [if_pos hc]; exact h1
variable {ρ : Env} {P : D → Prop} {PB : Bool → Prop} {PL : List D → Prop} {fa fb fc : Env → M D} {fs : Env → M (List D)} {ta tb : Env → M Bool}
theorem w_var {i : Nat} {d : D} (e : ρ[i]? = some (.val d)) (h : P d) : Wp I (cVar i ρ) P X := Wp.mk fun S s => by unfold cVar; rw [e]; exact ⟨h, s⟩
theorem w_c {d : D} (h : P d) : Wp I (cC d ρ) P X := Wp.mk fun S s => ⟨h, s⟩
theorem w_c2 {g : D → D → M D} (h : Wp I (fa ρ) (fun x => Wp I (fb ρ) (fun y => Wp I (g x y) P X) X) X) : Wp I (c2 g fa fb ρ) P X := Wp.bind (h.imp (fun _ h => Wp.bind h) fun _ _ x => x)
theorem w_c1 {g : D → M D} (h : Wp I (fa ρ) (fun x => Wp I (g x) P X) X) : Wp I (c1 g fa ρ) P X := Wp.bind h
theorem w_cA {g : List D → M D} (h : Wp I (fs ρ) (fun x => Wp I (g x) P X) X) : Wp I (cA g fs ρ) P X := Wp.bind h
theorem w_nil (h : PL []) : Wp I (cNil ρ) PL X := Wp.pure h
theorem w_cons (h : Wp I (fa ρ) (fun x => Wp I (fs ρ) (fun xs => PL (x :: xs)) X) X) : Wp I (cCons fa fs ρ) PL X := Wp.bind (h.imp (fun _ h => Wp.bind (h.imp (fun _ h => Wp.pure h) fun _ _ x => x)) fun _ _ x => x)
theorem w_call {n : Nat} {F : List D → M D} (h : Wp I (fs ρ) (fun ds => ds.length = n ∧ Wp I (F ds) P X) X) : Wp I (cCall n F fs ρ) P X := Wp.bind (h.imp (fun _ ⟨e, h⟩ => Wp.chk e h) fun _ _ x => x)
theorem w_b (h : Wp I (fa ρ) (fun d => ∃ k, d = .bl k ∧ PB k) X) : Wp I (cB fa ρ) PB X := Wp.bind (h.imp (fun _ ⟨k, e, h⟩ => by subst e; exact Wp.pure h) fun _ _ x => x)
theorem w_notB (h : Wp I (ta ρ) (fun k => PB (!k)) X) : Wp I (cNotB ta ρ) PB X := Wp.bind (h.imp (fun _ h => Wp.pure h) fun _ _ x => x)
theorem w_andB (h : Wp I (ta ρ) (fun k => (k = true → Wp I (tb ρ) PB X) ∧ (k = false → PB false)) X) : Wp I (cAndB ta tb ρ) PB X :=
  Wp.bind (h.imp (fun k ⟨h1, h2⟩ => by cases k with | true => exact h1 rfl | false => exact Wp.pure (h2 rfl)) fun _ _ x => x)
theorem w_orB (h : Wp I (ta ρ) (fun k => (k = false → Wp I (tb ρ) PB X) ∧ (k = true → PB true)) X) : Wp I (cOrB ta tb ρ) PB X :=
  Wp.bind (h.imp (fun k ⟨h1, h2⟩ => by cases k with | true => exact Wp.pure (h2 rfl) | false => exact h1 rfl) fun _ _ x => x)
theorem w_andV (h : Wp I (fa ρ) (fun d => ∃ k, d = .bl k ∧ (k = true → Wp I (fb ρ) P X) ∧ (k = false → P (.bl false))) X) : Wp I (cAndV fa fb ρ) P X :=
  Wp.bind (h.imp (fun d ⟨k, e, h1, h2⟩ => by subst e; cases k with | true => exact h1 rfl | false => exact Wp.pure (h2 rfl)) fun _ _ x => x)
theorem w_orV (h : Wp I (fa ρ) (fun d => ∃ k, d = .bl k ∧ (k = false → Wp I (fb ρ) P X) ∧ (k = true → P (.bl true))) X) : Wp I (cOrV fa fb ρ) P X :=
  Wp.bind (h.imp (fun d ⟨k, e, h1, h2⟩ => by subst e; cases k with | true => exact Wp.pure (h2 rfl) | false => exact h1 rfl) fun _ _ x => x)
theorem w_if (h : Wp I (ta ρ) (fun k => (k = true → Wp I (fa ρ) P X) ∧ (k = false → Wp I (fb ρ) P X)) X) : Wp I (cIf ta fa fb ρ) P X :=
  Wp.bind (h.imp (fun k ⟨h1, h2⟩ => by cases k with | true => exact h1 rfl | false => exact h2 rfl) fun _ _ x => x)
theorem w_chain {g1 g2 : D → D → M D} (h : Wp I (fa ρ) (fun x => Wp I (fb ρ) (fun y => Wp I (g1 x y) (fun d => ∃ k, d = .bl k ∧ (k = true → Wp I (fc ρ) (fun z => Wp I (g2 y z) P X) X) ∧ (k = false → P (.bl false))) X) X) X) : Wp I (cChain g1 g2 fa fb fc ρ) P X :=
  Wp.bind (h.imp (fun x h => Wp.bind (h.imp (fun y h => Wp.bind (h.imp (fun d ⟨k, e, h1, h2⟩ => by subst e; cases k with | true => exact Wp.bind (h1 rfl) | false => exact Wp.pure (h2 rfl)) fun _ _ x => x)) fun _ _ x => x)) fun _ _ x => x)
theorem w_it (h : Wp I (fa ρ) (fun d => Wp I (itemsD d) PL X) X) : Wp I (cIt fa ρ) PL X := Wp.bind h
theorem w_rng1 (h : Wp I (fa ρ) (fun d => Wp I (rng1 d) PL X) X) : Wp I (cRng1 fa ρ) PL X := Wp.bind h
theorem w_rng2 (h : Wp I (fa ρ) (fun x => Wp I (fb ρ) (fun y => Wp I (rng2 x y) PL X) X) X) : Wp I (cRng2 fa fb ρ) PL X := Wp.bind (h.imp (fun _ h => Wp.bind h) fun _ _ x => x)
theorem w_zip (h : Wp I (fa ρ) (fun x => Wp I (fb ρ) (fun y => Wp I (gZip x y) PL X) X) X) : Wp I (cZip fa fb ρ) PL X := Wp.bind (h.imp (fun _ h => Wp.bind h) fun _ _ x => x)
theorem w_enum (h : Wp I (fa ρ) (fun x => Wp I (gEnum x) PL X) X) : Wp I (cEnum fa ρ) PL X := Wp.bind h
theorem w_m0 {g : Str → M D} (h : Wp I (fa ρ) (fun d => ∃ a, d = .str a ∧ Wp I (g a) P X) X) : Wp I (cM0 g fa ρ) P X := Wp.bind (h.imp (fun d ⟨a, e, h⟩ => by subst e; exact h) fun _ _ x => x)
theorem w_m1 {g : Str → D → M D} (h : Wp I (fa ρ) (fun d => ∃ a, d = .str a ∧ Wp I (fb ρ) (fun y => Wp I (g a y) P X) X) X) : Wp I (cM1 g fa fb ρ) P X := Wp.bind (h.imp (fun d ⟨a, e, h⟩ => by subst e; exact Wp.bind h) fun _ _ x => x)
theorem w_part {PO : Option Int → Prop} (h : Wp I (fa ρ) (fun d => ∃ i, d = .int i ∧ PO (some i)) X) : Wp I (cPart fa ρ) PO X := Wp.bind (h.imp (fun d ⟨i, e, h⟩ => by subst e; exact Wp.pure h) fun _ _ x => x)
theorem w_noP {PO : Option Int → Prop} (h : PO none) : Wp I (cNoP ρ) PO X := Wp.pure h
theorem w_sl {fl fh : Env → M (Option Int)} (h : Wp I (fa ρ) (fun x => Wp I (fl ρ) (fun lo => Wp I (fh ρ) (fun hi => Wp I (gSl x lo hi) P X) X) X) X) : Wp I (cSl fa fl fh ρ) P X :=
  Wp.bind (h.imp (fun _ h => Wp.bind (h.imp (fun _ h => Wp.bind h) fun _ _ x => x)) fun _ _ x => x)
/-! comprehensions -/
theorem w_noX {m : M α} {Q : α → Prop} (h : Wp I m Q X0) : Wp I (noX m) Q X := Wp.mk fun S s => by
  have h1 := h.at_ S s
  unfold noX
  cases q : m S with
  | ok a S' => rw [q] at h1; exact h1
  | exc c fs S' => rw [q] at h1; exact h1.1.elim
  | bad => rw [q] at h1; exact h1
/-- each item gives nothing or something under R; the results in order -/
inductive Got_ (R : D → Option D → Prop) : List D → List D → Prop where
  | nil : Got_ R [] []
  | skip {d : D} {ds ys : List D} : R d none → Got_ R ds ys → Got_ R (d :: ds) ys
  | take {d y : D} {ds ys : List D} : R d (some y) → Got_ R ds ys → Got_ R (d :: ds) (y :: ys)
theorem w_compL {b : Bd} {t : Env → M Bool} {f : Env → M D} {R : D → Option D → Prop} : ∀ {ds : List D}, (∀ d ∈ ds, ∃ ρ', b d ρ = some ρ' ∧ Wp I (t ρ') (fun k => (k = true → Wp I (f ρ') (fun y => R d (some y)) X0) ∧ (k = false → R d none)) X0) → Wp I (compL b t f ρ ds) (Got_ R ds) X0
  | [], _ => Wp.pure .nil
  | d :: ds, h => by
    obtain ⟨ρ', e, h1⟩ := h d List.mem_cons_self
    have ih := w_compL (ds := ds) fun x hx => h x (List.mem_cons_of_mem _ hx)
    unfold compL
    rw [e]
    refine Wp.bind (h1.imp (fun k ⟨k1, k0⟩ => ?_) fun _ _ x => x)
    cases k with
    | true => exact Wp.bind ((k1 rfl).imp (fun y hy => Wp.bind (ih.imp (fun ys hys => Wp.pure (.take hy hys)) fun _ _ x => x)) fun _ _ x => x)
    | false => exact ih.imp (fun ys hys => .skip (k0 rfl) hys) fun _ _ x => x
theorem w_comp {fi : Env → M (List D)} {b : Bd} {t : Env → M Bool} {f : Env → M D} {vs : List Nat} (R : D → Option D → Prop) (h : Wp I (fi ρ) (fun ds => ds.length ≤ 16777216 ∧
      (∀ d ∈ ds, ∃ ρ', b d (wipeE ρ vs) = some ρ' ∧ Wp I (t ρ') (fun k => (k = true → Wp I (f ρ') (fun y => R d (some y)) X0) ∧ (k = false → R d none)) X0) ∧ ∀ ys, Got_ R ds ys → P (.lst ys)) X) : Wp I (cComp fi b t f vs ρ) P X :=
  Wp.bind (h.imp (fun ds ⟨c, h1, h2⟩ => Wp.chk c (Wp.bind ((w_noX (w_compL h1)).imp (fun ys hys => Wp.pure (h2 ys hys)) fun _ _ x => x))) fun _ _ x => x)
theorem w_yes {Q : Bool → Prop} (h : Q true) : Wp I (cYes ρ) Q X := Wp.pure h
theorem Got_.map {g : D → D} : ∀ {ds ys : List D}, Got_ (fun d o => o = some (g d)) ds ys → ys = ds.map g
  | _, _, .nil => rfl
  | _, _, .skip h _ => by cases h
  | _, _, .take h t => by cases h; rw [List.map_cons, Got_.map t]
theorem Got_.filterMap {g : D → Option D} : ∀ {ds ys : List D}, Got_ (fun d o => o = g d) ds ys → ys = ds.filterMap g
  | _, _, .nil => rfl
  | _, _, .skip h t => by rw [List.filterMap_cons_none h.symm, Got_.filterMap t]
  | _, _, .take h t => by rw [List.filterMap_cons_some h.symm, Got_.filterMap t]
theorem Got_.all {Q : D → Prop} : ∀ {ds ys : List D}, Got_ (fun _ o => ∃ y, o = some y ∧ Q y) ds ys → ys.length = ds.length ∧ ∀ y ∈ ys, Q y
  | _, _, .nil => ⟨rfl, fun _ h => by cases h⟩
  | _, _, .skip h _ => by obtain ⟨_, h, _⟩ := h; cases h
  | _, _, .take h t => by
    obtain ⟨y, e, q⟩ := h
    cases e
    obtain ⟨l, a⟩ := Got_.all t
    refine ⟨by rw [List.length_cons, List.length_cons, l], fun z hz => ?_⟩
    rcases List.mem_cons.mp hz with rfl | hz
    · exact q
    · exact a z hz
/-! statements -/
variable {PS : Fl → Env → Prop} {f g : Sm}
theorem Ws.imp {m : Store → RS} {Q Q' : Fl → Env → Prop} {X' : XP} (h : Ws I m Q X) (i : ∀ a b, Q a b → Q' a b) (ix : ∀ c fs, X c fs → X' c fs) : Ws I m Q' X' := Ws.mk fun S s => by
  have h1 := h.at_ S s
  cases q : m S with
  | go a r S' => rw [q] at h1; exact ⟨i _ _ h1.1, h1.2⟩
  | exc c fs r S' => rw [q] at h1; exact ⟨ix _ _ h1.1, h1.2⟩
  | bad => rw [q] at h1; exact h1
theorem ws_onE {m : M α} {k : α → Store → RS} (h : Wp I m (fun a => Ws I (k a) PS X) X) : Ws I (fun S => onE (m S) ρ k) PS X := Ws.mk fun S s => by
  have h1 := h.at_ S s
  show match onE (m S) ρ k with | .go f ρ S' => PS f ρ ∧ I S' | .exc c fs _ S' => X c fs ∧ I S' | .bad => False
  cases q : m S with
  | ok a S' => rw [q] at h1; exact h1.1.at_ S' h1.2
  | exc c fs S' => rw [q] at h1; exact h1
  | bad => rw [q] at h1; exact h1
theorem ws_go {fl : Fl} (h : PS fl ρ) : Ws I (fun S => .go fl ρ S) PS X := Ws.mk fun S s => ⟨h, s⟩
theorem ws_asg {b : Bd} (h : Wp I (fa ρ) (fun d => ∃ ρ', b d ρ = some ρ' ∧ PS .nx ρ') X) : Ws I (cAsg fa b ρ) PS X := by
  refine ws_onE (h.imp (fun d ⟨ρ', e, h⟩ => ?_) fun _ _ x => x)
  simp only [e]
  exact ws_go h
theorem ws_ret (h : Wp I (fa ρ) (fun d => PS (.rt d) ρ) X) : Ws I (cRet fa ρ) PS X := ws_onE (h.imp (fun d h => ws_go h) fun _ _ x => x)
theorem ws_drop (h : Wp I (fa ρ) (fun _ => PS .nx ρ) X) : Ws I (cDrop fa ρ) PS X := ws_onE (h.imp (fun d h => ws_go h) fun _ _ x => x)
theorem ws_if (h : Wp I (ta ρ) (fun k => (k = true → Ws I (f ρ) PS X) ∧ (k = false → Ws I (g ρ) PS X)) X) : Ws I (cIfS ta f g ρ) PS X := by
  refine ws_onE (h.imp (fun k ⟨h1, h2⟩ => ?_) fun _ _ x => x)
  cases k with
  | true => exact h1 rfl
  | false => exact h2 rfl
theorem ws_next (h : PS .nx ρ) : Ws I (cNext ρ) PS X := ws_go h
theorem ws_brk (h : PS .bk ρ) : Ws I (cBrk ρ) PS X := ws_go h
theorem ws_cont (h : PS .ct ρ) : Ws I (cCont ρ) PS X := ws_go h
theorem ws_retN (h : PS (.rt .non) ρ) : Ws I (cRetN ρ) PS X := ws_go h
theorem ws_seq (h : Ws I (f ρ) (fun fl ρ' => (fl = .nx → Ws I (g ρ') PS X) ∧ (fl ≠ .nx → PS fl ρ')) X) : Ws I (cSeq f g ρ) PS X := Ws.mk fun S s => by
  have h1 := h.at_ S s
  unfold cSeq
  cases q : f ρ S with
  | go fl r S' =>
    rw [q] at h1
    cases fl with
    | nx => exact (h1.1.1 rfl).at_ S' h1.2
    | rt d => exact ⟨h1.1.2 (by intro z; cases z), h1.2⟩
    | bk => exact ⟨h1.1.2 (by intro z; cases z), h1.2⟩
    | ct => exact ⟨h1.1.2 (by intro z; cases z), h1.2⟩
  | exc c fs r S' => rw [q] at h1; exact h1
  | bad => rw [q] at h1; exact h1
theorem ws_par {i j : Nat} (h : Wp I (fs ρ) (fun ds => ∃ x y, ds = [x, y] ∧ PS .nx ((ρ.set i (.val x)).set j (.val y))) X) : Ws I (cPar i j fs ρ) PS X :=
  ws_onE (h.imp (fun ds ⟨x, y, e, h⟩ => by subst e; exact ws_go h) fun _ _ x => x)
theorem ws_frz {i : Nat} (h : Ws I (f (frzE i ρ)) PS X) : Ws I (cFrz i f ρ) PS X := h
theorem ws_setOwn {i : Nat} (h : Wp I (fs ρ) (fun ds => ds.length ≤ 16777216 ∧ PS .nx (ρ.set i (.own ds))) X) : Ws I (cSetOwn i fs ρ) PS X := by
  refine ws_onE (h.imp (fun ds ⟨c, h⟩ => ?_) fun _ _ x => x)
  simp only [if_pos c]
  exact ws_go h
theorem ws_app {i : Nat} {xs : List D} (e : ρ[i]? = some (.own xs)) (hl : xs.length < 16777216) (h : Wp I (fa ρ) (fun d => PS .nx (ρ.set i (.own (xs ++ [d])))) X) : Ws I (cApp i fa ρ) PS X := by
  show Ws I (fun S => cApp i fa ρ S) PS X
  unfold cApp
  simp only [e]
  refine ws_onE (h.imp (fun d h => ?_) fun _ _ x => x)
  simp only [if_pos hl]
  exact ws_go h
/-- a loop by its word, over what is left -/
theorem ws_forL {b : Bd} {body : Sm} (J : List D → Env → Prop) (turn : ∀ d ds ρ, J (d :: ds) ρ → ∃ ρ1, b d ρ = some ρ1 ∧ Ws I (body ρ1) (fun fl ρ2 => match fl with
      | .nx => J ds ρ2
      | .ct => J ds ρ2
      | .bk => PS .nx ρ2
      | .rt d => PS (.rt d) ρ2) X) (last : ∀ ρ, J [] ρ → PS .nx ρ) : ∀ (ds : List D) (ρ : Env), J ds ρ → Ws I (forL b body ds ρ) PS X
  | [], ρ, h => ws_go (last ρ h)
  | d :: ds, ρ, h => Ws.mk fun S s => by
    obtain ⟨ρ1, e, h1⟩ := turn d ds ρ h
    have ih := ws_forL J turn last ds
    have h1 := h1.at_ S s
    unfold forL
    rw [e]
    dsimp only
    cases q : body ρ1 S with
    | go fl r S' =>
      rw [q] at h1
      cases fl with
      | nx => exact (ih r h1.1).at_ S' h1.2
      | ct => exact (ih r h1.1).at_ S' h1.2
      | bk => exact h1
      | rt d => exact h1
    | exc c fs r S' => rw [q] at h1; exact h1
    | bad => rw [q] at h1; exact h1
theorem ws_for {fi : Env → M (List D)} {b : Bd} {body : Sm} (h : Wp I (fi ρ) (fun ds => Ws I (forL b body ds ρ) PS X) X) : Ws I (cFor fi b body ρ) PS X := ws_onE h
/-- a def -/
theorem w_def {n m : Nat} {body : Sm} {ds : List D} (e : ds.length = n) (h : Ws I (body (ds.map Sl.val ++ List.replicate (m - n) Sl.un)) (fun fl _ => match fl with
    | .rt d => P d
    | .nx => P .non
    | _ => False) X) : Wp I (runF n m body ds) P X := Wp.mk fun S s => by
  have h1 := h.at_ S s
  unfold runF
  rw [if_pos e]
  cases q : body (ds.map Sl.val ++ List.replicate (m - n) Sl.un) S with
  | go fl r S' =>
    rw [q] at h1
    cases fl with
    | nx => exact h1
    | rt d => exact h1
    | bk => exact h1.1.elim
    | ct => exact h1.1.elim
  | exc c fs r S' => rw [q] at h1; exact h1
  | bad => rw [q] at h1; exact h1
end

/-! ### the die -/
def IsDie (n : Nat) (S : Store) : Prop := ∃ a b c : Int, S[n]? = some (.lst [.int a, .int b, .int c])
section
variable {n : Nat} {X : XP}
theorem w_dieAt {k : Int} {P : D → Prop} (hk : k = 0 ∨ k = 1 ∨ k = 2) (h : ∀ i : Int, P (.int i)) : Wp (IsDie n) (gIx (.mut n) (.int k)) P X := Wp.mk fun S ⟨a, b, c, e⟩ => by
  have e' : S[n]? = some (.lst [.int a, .int b, .int c]) := e
  unfold gIx
  dsimp only
  rw [e']
  rcases hk with rfl | rfl | rfl
  · exact ⟨h a, a, b, c, e⟩
  · exact ⟨h b, a, b, c, e⟩
  · exact ⟨h c, a, b, c, e⟩
theorem w_dieSet {k v : Int} {P : Unit → Prop} (hk : k = 0 ∨ k = 1 ∨ k = 2) (h : P ()) : Wp (IsDie n) (gSetI (.mut n) (.int k) (.int v)) P X := Wp.mk fun S ⟨a, b, c, e⟩ => by
  have e' : S[n]? = some (.lst [.int a, .int b, .int c]) := e
  have hn : n < S.length := (List.getElem?_eq_some_iff.mp e).1
  unfold gSetI
  dsimp only
  rw [e']
  rcases hk with rfl | rfl | rfl
  · exact ⟨h, v, b, c, List.getElem?_set_self hn⟩
  · exact ⟨h, a, v, c, List.getElem?_set_self hn⟩
  · exact ⟨h, a, b, v, List.getElem?_set_self hn⟩
theorem ws_setI {ρ : Env} {I : Store → Prop} {PS : Fl → Env → Prop} {fe fo fi : Env → M D} (h : Wp I (fe ρ) (fun v => Wp I (fo ρ) (fun o => Wp I (fi ρ) (fun i => Wp I (gSetI o i v) (fun _ => PS .nx ρ) X) X) X) X) : Ws I (cSetI fe fo fi ρ) PS X :=
  ws_onE (h.imp (fun v h => ws_onE (h.imp (fun o h => ws_onE (h.imp (fun i h => ws_onE (h.imp (fun _ h => ws_go h) fun _ _ x => x)) fun _ _ x => x)) fun _ _ x => x)) fun _ _ x => x)
end
end DN
/-! DG: the leaves: what an operation answers. -/
namespace DN
open PySem PySem.Spec PyProof.Rows L2 TL
section
variable {I : Store → Prop} {X : XP} {P : D → Prop} {PL : List D → Prop}
theorem wg_eqm {α : Type} {m : M α} {a : α} {Q : α → Prop} (e : m = M.pure a) (h : Q a) : Wp I m Q X := by rw [e]; exact Wp.pure h
theorem wg_add {i j : Int} (h : P (.int (i + j))) : Wp I (gAdd (.int i) (.int j)) P X := Wp.pure h
theorem wg_addS {a b : Str} (hl : a.length + b.length ≤ 16777216) (h : P (.str (a ++ b))) : Wp I (gAdd (.str a) (.str b)) P X := Wp.chk hl (Wp.pure h)
theorem wg_addL {a b : List D} (hl : a.length + b.length ≤ 16777216) (h : P (.lst (a ++ b))) : Wp I (gAdd (.lst a) (.lst b)) P X := Wp.chk hl (Wp.pure h)
theorem wg_addT {a b : List D} (hl : a.length + b.length ≤ 16777216) (h : P (.tup (a ++ b))) : Wp I (gAdd (.tup a) (.tup b)) P X := Wp.chk hl (Wp.pure h)
theorem wg_sub {i j : Int} (h : P (.int (i - j))) : Wp I (gSub (.int i) (.int j)) P X := Wp.pure h
theorem wg_mul {i j : Int} (hl : (-(2 ^ 64) < i ∧ i < 2 ^ 64) ∨ (-(2 ^ 64) < j ∧ j < 2 ^ 64)) (h : P (.int (i * j))) : Wp I (gMul (.int i) (.int j)) P X := Wp.chk hl (Wp.pure h)
theorem wg_mod {i j : Int} (hl : 0 < j) (h : P (.int (i % j))) : Wp I (gMod (.int i) (.int j)) P X := Wp.chk hl (Wp.pure h)
theorem wg_fdiv {i j : Int} (hl : 0 < j ∧ j < 1073741824) (h : P (.int (i / j))) : Wp I (gFdiv (.int i) (.int j)) P X := Wp.chk hl (Wp.pure h)
theorem wg_pow {i j : Int} (hl : 0 ≤ j ∧ (Builtin.Int.intBits i : Int) * j ≤ 134217728) (h : P (.int (i ^ j.toNat))) : Wp I (gPow (.int i) (.int j)) P X := Wp.chk hl (Wp.pure h)
theorem wg_neg {i : Int} (h : P (.int (-i))) : Wp I (gNeg (.int i)) P X := Wp.pure h
theorem wg_lt {i j : Int} (h : P (.bl (decide (i < j)))) : Wp I (gLt (.int i) (.int j)) P X := Wp.pure h
theorem wg_le {i j : Int} (h : P (.bl (decide (i ≤ j)))) : Wp I (gLe (.int i) (.int j)) P X := Wp.pure h
theorem wg_gt {i j : Int} (h : P (.bl (decide (j < i)))) : Wp I (gGt (.int i) (.int j)) P X := Wp.pure h
theorem wg_ge {i j : Int} (h : P (.bl (decide (j ≤ i)))) : Wp I (gGe (.int i) (.int j)) P X := Wp.pure h
theorem wg_eq {x y : D} {b : Bool} (e : eqD x y = some b) (h : P (.bl b)) : Wp I (gEq x y) P X := wg_eqm (by unfold gEq; rw [e]) h
theorem wg_ne {x y : D} {b : Bool} (e : eqD x y = some b) (h : P (.bl (!b))) : Wp I (gNe x y) P X := wg_eqm (by unfold gNe; rw [e]) h
theorem wg_in {x y : D} {b : Bool} (e : inD x y = some b) (h : P (.bl b)) : Wp I (gIn x y) P X := wg_eqm (by unfold gIn; rw [e]) h
theorem wg_notin {x y : D} {b : Bool} (e : inD x y = some b) (h : P (.bl (!b))) : Wp I (gNotIn x y) P X := wg_eqm (by unfold gNotIn; rw [e]) h
theorem wg_eqX {x y : D} {b : Bool} (e : eqX x y = some b) (h : P (.bl b)) : Wp I (gEqX x y) P X := wg_eqm (by unfold gEqX; rw [e]) h
theorem wg_not {b : Bool} (h : P (.bl (!b))) : Wp I (gNot (.bl b)) P X := Wp.pure h
theorem wg_ixL {xs : List D} {i : Int} {d : D} (e : atI xs i = some d) (h : P d) : Wp I (gIx (.lst xs) (.int i)) P X := wg_eqm (by unfold gIx; dsimp only; rw [e]; rfl) h
theorem wg_ixT {xs : List D} {i : Int} {d : D} (e : atI xs i = some d) (h : P d) : Wp I (gIx (.tup xs) (.int i)) P X := wg_eqm (by unfold gIx; dsimp only; rw [e]; rfl) h
theorem wg_ixC {xs : List Int} {i : Int} {d : Int} (e : atI xs i = some d) (h : P (.int d)) : Wp I (gIx (.scr xs) (.int i)) P X := wg_eqm (by unfold gIx; dsimp only; rw [e]; rfl) h
theorem wg_ixS {z : Str} {i : Int} {c : Nat} (hz : z.length ≤ 16777216) (e : atI z.cps.toList i = some c) (h : P (.str ⟨#[c]⟩)) : Wp I (gIx (.str z) (.int i)) P X := wg_eqm (by unfold gIx; dsimp only; rw [if_pos hz, e]; rfl) h
theorem wg_lenL {xs : List D} (h : P (.int xs.length)) : Wp I (gLen [.lst xs]) P X := Wp.pure h
theorem wg_lenT {xs : List D} (h : P (.int xs.length)) : Wp I (gLen [.tup xs]) P X := Wp.pure h
theorem wg_lenC {xs : List Int} (h : P (.int xs.length)) : Wp I (gLen [.scr xs]) P X := Wp.pure h
theorem wg_lenS {z : Str} (hz : z.length ≤ 16777216) (h : P (.int z.length)) : Wp I (gLen [.str z]) P X := Wp.chk hz (Wp.pure h)
theorem wg_int {i : Int} (h : P (.int i)) : Wp I (gInt [.int i]) P X := Wp.pure h
theorem wg_intB {b : Bool} (h : P (.int (if b then 1 else 0))) : Wp I (gInt [.bl b]) P X := Wp.pure h
theorem wg_abs {i : Int} (h : P (.int (if i < 0 then -i else i))) : Wp I (gAbs [.int i]) P X := Wp.pure h
theorem wg_max2 {i j : Int} (h : P (.int (if j > i then j else i))) : Wp I (gMax2 [.int i, .int j]) P X := Wp.pure h
theorem wg_min2 {i j : Int} (h : P (.int (if j < i then j else i))) : Wp I (gMin2 [.int i, .int j]) P X := Wp.pure h
theorem wg_tup {xs : List D} (hl : xs.length ≤ 16777216) (h : P (.tup xs)) : Wp I (gTup xs) P X := Wp.chk hl (Wp.pure h)
theorem wg_lst {xs : List D} (hl : xs.length ≤ 16777216) (h : P (.lst xs)) : Wp I (gLst xs) P X := Wp.chk hl (Wp.pure h)
theorem wg_isi {T t : String} {d : D} (e : tyD d = some t) (h : P (.bl (isiD T t))) : Wp I (gIsi T d) P X := wg_eqm (by unfold gIsi; rw [e]) h
theorem wg_all {xs : List D} {bs : List Bool} (e : blsD xs = some bs) (h : P (.bl (bs.all id))) : Wp I (gAll [.lst xs]) P X := wg_eqm (by unfold gAll; dsimp only; rw [e]) h
theorem wg_any {xs : List D} {bs : List Bool} (e : blsD xs = some bs) (h : P (.bl (bs.any id))) : Wp I (gAny [.lst xs]) P X := wg_eqm (by unfold gAny; dsimp only; rw [e]) h
theorem wg_joinL {a : Str} {xs : List D} {ys : List Str} (e : strsD xs = some ys) (hl : (ys.map (·.length)).sum + ys.length * a.length ≤ 16777216) (h : P (.str (Txt.join a ys))) : Wp I (gJoin a (.lst xs)) P X :=
  wg_eqm (by unfold gJoin; dsimp only; rw [e]; exact if_pos hl) h
theorem wg_upper {a : Str} (hl : a.length ≤ 5592405) (h : P (.str (Txt.upper a))) : Wp I (gUpper a) P X := Wp.chk hl (Wp.pure h)
theorem wg_reprB {b : Bool} (h : P (.str (if b then "True" else "False"))) : Wp I (gRepr [.bl b]) P X := Wp.pure h
theorem wg_itL {xs : List D} (h : PL xs) : Wp I (itemsD (.lst xs)) PL X := Wp.pure h
theorem wg_itT {xs : List D} (h : PL xs) : Wp I (itemsD (.tup xs)) PL X := Wp.pure h
theorem wg_itC {xs : List Int} (h : PL (xs.map D.int)) : Wp I (itemsD (.scr xs)) PL X := Wp.pure h
theorem wg_itS {z : Str} (h : PL (chD z)) : Wp I (itemsD (.str z)) PL X := Wp.pure h
theorem wg_rng1 {j : Int} (hj : -(2 ^ 62) ≤ j ∧ j < 2 ^ 62) (h : PL (rngD 0 j.toNat)) : Wp I (rng1 (.int j)) PL X := Wp.chk hj (Wp.pure h)
theorem wg_rng2 {i j : Int} (hj : -(2 ^ 62) ≤ i ∧ i < 2 ^ 62 ∧ -(2 ^ 62) ≤ j ∧ j < 2 ^ 62) (h : PL (rngD i (j - i).toNat)) : Wp I (rng2 (.int i) (.int j)) PL X := Wp.chk hj (Wp.pure h)
theorem wg_slS {z : Str} {lo hi : Option Int} (hz : z.length ≤ 16777216) (h : P (.str (cutS z lo hi))) : Wp I (gSl (.str z) lo hi) P X := Wp.chk hz (Wp.pure h)
theorem wg_slL {z : List D} {lo hi : Option Int} (h : P (.lst (cutD z lo hi))) : Wp I (gSl (.lst z) lo hi) P X := Wp.pure h
theorem wg_slT {z : List D} {lo hi : Option Int} (h : P (.tup (cutD z lo hi))) : Wp I (gSl (.tup z) lo hi) P X := Wp.pure h
/-- a tuple or a list that is seen anew: the list's place as its word -/
theorem at_some {α : Type} {xs : List α} {i : Int} (h0 : 0 ≤ i) (h1 : i < xs.length) : ∃ d, atI xs i = some d ∧ xs[i.toNat]? = some d := by
  have hl : i.toNat < xs.length := by omega
  refine ⟨xs[i.toNat], ?_, List.getElem?_eq_getElem hl⟩
  unfold atI ixN
  rw [if_pos h0, if_pos h1]
  exact List.getElem?_eq_getElem hl
/-- from any store, a statement that makes the die, then the rest under the die's word -/
theorem ws_newDie {i : Nat} {ρ : Env} {g : Sm} {PS : Fl → Env → Prop} {fa : Env → M D} (h : ∀ S, ∃ S', fa ρ S = .ok (.mut S.length) S' ∧ IsDie S.length S') (h2 : ∀ n, Ws (IsDie n) (g (ρ.set i (.val (.mut n)))) PS X) :
    Ws (fun _ => True) (cSeq (cAsg fa (bName i)) g ρ) PS X := Ws.mk fun S _ => by
  obtain ⟨S', e, d⟩ := h S
  have h2 := (h2 S.length).at_ S' d
  simp only [cSeq, cAsg, onE, e, bName]
  cases q : g (ρ.set i (.val (.mut S.length))) S' with
  | go fl r S' => rw [q] at h2; exact ⟨h2.1, trivial⟩
  | exc c fs r S' => rw [q] at h2; exact ⟨h2.1, trivial⟩
  | bad => rw [q] at h2; exact h2
end

theorem rt_nx {d : D} {Q : Prop} (z : Fl.rt d = Fl.nx) : Q := by cases z
theorem bk_nx {Q : Prop} (z : Fl.bk = Fl.nx) : Q := by cases z
theorem ct_nx {Q : Prop} (z : Fl.ct = Fl.nx) : Q := by cases z
/-! the def that makes the die -/
def Wl (S0 : Store) (m : Store → RS) : Prop := ∃ ρ2 S2, m S0 = .go (.rt (.mut S0.length)) ρ2 S2 ∧ IsDie S0.length S2
section
variable {S0 : Store} {ρ : Env}
theorem wl_asg {i : Nat} {fa : Env → M D} {g : Sm} (h : Wp (fun S => S = S0) (fa ρ) (fun d => Wl S0 (g (ρ.set i (.val d)))) X0) : Wl S0 (cSeq (cAsg fa (bName i)) g ρ) := by
  obtain ⟨d, S', e, ⟨ρ2, S2, e2, hd⟩, rfl⟩ := h.run rfl
  refine ⟨ρ2, S2, ?_, hd⟩
  simp only [cSeq, cAsg, onE, e, bName]
  exact e2
theorem wl_ret {fs : Env → M (List D)} (h : Wp (fun S => S = S0) (fs ρ) (fun xs => ∃ a b c : Int, xs = [.int a, .int b, .int c]) X0) : Wl S0 (cRet (cA gLstM fs) ρ) := by
  obtain ⟨xs, S', e, ⟨a, b, c, rfl⟩, rfl⟩ := h.run rfl
  have z3 : (3 : Nat) ≤ 16777216 := by omega
  refine ⟨ρ, S' ++ [.lst [.int a, .int b, .int c]], ?_, a, b, c, by rw [List.getElem?_append_right (Nat.le_refl _), Nat.sub_self]; rfl⟩
  simp only [cRet, onE, cA, bind_run, e, gLstM, List.length_cons, List.length_nil, Nat.reduceAdd, z3, if_true]
theorem wl_run {n m : Nat} {body : Sm} {ds : List D} (e : ds.length = n) (h : Wl S0 (body (ds.map Sl.val ++ List.replicate (m - n) Sl.un))) : ∃ S', runF n m body ds S0 = .ok (.mut S0.length) S' ∧ IsDie S0.length S' := by
  obtain ⟨ρ2, S2, e2, hd⟩ := h
  refine ⟨S2, ?_, hd⟩
  unfold runF
  rw [if_pos e, e2]
end

/-! ### comprehensions by a function -/
theorem bls_map_ {α : Type} (p : α → Bool) : ∀ xs : List α, blsD (xs.map fun a => D.bl (p a)) = some (xs.map p)
  | [] => rfl
  | x :: xs => by unfold List.map blsD; rw [bls_map_ p xs]; rfl
section
variable {I : Store → Prop} {X : XP} {P : D → Prop} {ρ : Env} {fi : Env → M (List D)} {b : Bd} {t : Env → M Bool} {f : Env → M D} {vs : List Nat}
theorem fm_if (p : D → Bool) (g : D → D) : ∀ ds : List D, ds.filterMap (fun d => if p d = true then some (g d) else none) = (ds.filter p).map g
  | [] => rfl
  | d :: ds => by
    have ih := fm_if p g ds
    cases hp : p d with
    | true => simp only [List.filterMap_cons, List.filter_cons, hp, if_true, List.map_cons, ih]
    | false => simp only [List.filterMap_cons, List.filter_cons, hp, Bool.false_eq_true, if_false, ih]
theorem w_compF (p : D → Bool) (g : D → D) (h : Wp I (fi ρ) (fun ds => ds.length ≤ 16777216 ∧ (∀ d ∈ ds, ∃ ρ', b d (wipeE ρ vs) = some ρ' ∧ Wp I (t ρ') (fun k => k = p d ∧ (k = true → Wp I (f ρ') (fun y => y = g d) X0)) X0) ∧ P (.lst ((ds.filter p).map g))) X) :
    Wp I (cComp fi b t f vs ρ) P X := by
  refine w_comp (fun d o => o = if p d = true then some (g d) else none) (h.imp (fun ds ⟨h1, h2, h3⟩ => ⟨h1, fun d hd => ?_, fun ys hys => ?_⟩) fun _ _ x => x)
  · obtain ⟨ρ', e, w⟩ := h2 d hd
    refine ⟨ρ', e, w.imp (fun k ⟨e1, e2⟩ => ⟨fun hk => (e2 hk).imp (fun y hy => ?_) fun _ _ x => x, fun hk => ?_⟩) fun _ _ x => x⟩
    · rw [← e1, if_pos hk, hy]
    · rw [← e1, hk]; rfl
  · have := hys.filterMap (g := fun d => if p d = true then some (g d) else none)
    rw [this]
    rw [fm_if]
    exact h3
theorem w_compM (g : D → D) (h : Wp I (fi ρ) (fun ds => ds.length ≤ 16777216 ∧ (∀ d ∈ ds, ∃ ρ', b d (wipeE ρ vs) = some ρ' ∧ Wp I (f ρ') (fun y => y = g d) X0) ∧ P (.lst (ds.map g))) X) : Wp I (cComp fi b cYes f vs ρ) P X := by
  refine w_compF (fun _ => true) g (h.imp (fun ds ⟨h1, h2, h3⟩ => ⟨h1, fun d hd => ?_, ?_⟩) fun _ _ x => x)
  · obtain ⟨ρ', e, w⟩ := h2 d hd
    exact ⟨ρ', e, w_yes ⟨rfl, fun _ => w⟩⟩
  · rw [List.filter_eq_self.mpr fun _ _ => rfl]
    exact h3
theorem w_allc (p : D → Bool) (h : Wp I (fi ρ) (fun ds => ds.length ≤ 16777216 ∧ (∀ d ∈ ds, ∃ ρ', b d (wipeE ρ vs) = some ρ' ∧ Wp I (f ρ') (fun y => y = .bl (p d)) X0) ∧ P (.bl (ds.all p))) X) : Wp I (cA gAll (cCons (cComp fi b cYes f vs) cNil) ρ) P X := by
  refine w_cA (w_cons (w_compM (fun d => .bl (p d)) (h.imp (fun ds ⟨h1, h2, h3⟩ => ⟨h1, h2, w_nil (wg_all (bls_map_ p ds) ?_)⟩) fun _ _ x => x)))
  rw [List.all_map]
  exact h3
theorem w_anyc (p : D → Bool) (h : Wp I (fi ρ) (fun ds => ds.length ≤ 16777216 ∧ (∀ d ∈ ds, ∃ ρ', b d (wipeE ρ vs) = some ρ' ∧ Wp I (f ρ') (fun y => y = .bl (p d)) X0) ∧ P (.bl (ds.any p))) X) : Wp I (cA gAny (cCons (cComp fi b cYes f vs) cNil) ρ) P X := by
  refine w_cA (w_cons (w_compM (fun d => .bl (p d)) (h.imp (fun ds ⟨h1, h2, h3⟩ => ⟨h1, h2, w_nil (wg_any (bls_map_ p ds) ?_)⟩) fun _ _ x => x)))
  rw [List.any_map]
  exact h3
theorem wg_allM {p : D → Bool} {ds : List D} (h : P (.bl (ds.all p))) : Wp I (gAll [.lst (ds.map fun d => D.bl (p d))]) P X := wg_all (bls_map_ p ds) (by rw [List.all_map]; exact h)
theorem wg_anyM {p : D → Bool} {ds : List D} (h : P (.bl (ds.any p))) : Wp I (gAny [.lst (ds.map fun d => D.bl (p d))]) P X := wg_any (bls_map_ p ds) (by rw [List.any_map]; exact h)
theorem wg_tupleL {xs : List D} (h : P (.tup xs)) : Wp I (gTuple [.lst xs]) P X := Wp.pure h
theorem wg_tupleT {xs : List D} (h : P (.tup xs)) : Wp I (gTuple [.tup xs]) P X := Wp.pure h
theorem wg_listL {xs : List D} (h : P (.lst xs)) : Wp I (gList [.lst xs]) P X := Wp.pure h
theorem wg_listT {xs : List D} (h : P (.lst xs)) : Wp I (gList [.tup xs]) P X := Wp.pure h
theorem wg_revL {xs : List D} (h : P (.lst xs.reverse)) : Wp I (gRev (.lst xs)) P X := Wp.pure h
theorem wg_revT {xs : List D} (h : P (.tup xs.reverse)) : Wp I (gRev (.tup xs)) P X := Wp.pure h
theorem wg_zipT {xs ys : List D} {PL : List D → Prop} (h : PL (zipD xs ys)) : Wp I (gZip (.tup xs) (.tup ys)) PL X := Wp.pure h
theorem wg_mulT {xs : List D} {k : Int} (hl : xs.isEmpty = false ∧ 2 ≤ k ∧ k ≤ 1000 ∧ xs.length ≤ 1000) (h : P (.tup (List.replicate k.toNat xs).flatten)) : Wp I (gMul (.tup xs) (.int k)) P X := Wp.chk hl (Wp.pure h)
theorem wg_mulL {xs : List D} {k : Int} (hl : 0 ≤ k ∧ k ≤ 1000 ∧ xs.length ≤ 1000) (h : P (.lst (List.replicate k.toNat xs).flatten)) : Wp I (gMul (.lst xs) (.int k)) P X := Wp.chk hl (Wp.pure h)
theorem ws_parO {PS : Fl → Env → Prop} {i j : Nat} {fs : Env → M (List D)} {fe : Env → M D} (h : Wp I (fs ρ) (fun ds => ds.length ≤ 16777216 ∧ Wp I (fe ρ) (fun d => PS .nx ((ρ.set i (.own ds)).set j (.val d))) X) X) : Ws I (cParO i j fs fe ρ) PS X := by
  refine ws_onE (h.imp (fun ds ⟨c, h⟩ => ?_) fun _ _ x => x)
  simp only [if_pos c]
  exact ws_onE (h.imp (fun d h => ws_go h) fun _ _ x => x)
/-- a comparison by its answer -/
theorem eqD_int (i j : Int) : eqD (.int i) (.int j) = some (decide (i = j)) := by
  have e : ∀ k : Int, toP (.int k) = some (.int k) := fun k => by unfold toP; rfl
  unfold eqD
  rw [e, e]
  dsimp only
  rw [if_pos ⟨rfl, rfl⟩]
  show some (i == j) = _
  rfl
theorem eqD_bl (i j : Bool) : eqD (.bl i) (.bl j) = some (decide (i = j)) := by
  have e : ∀ k : Bool, toP (.bl k) = some (.bool k) := fun k => by unfold toP; rfl
  unfold eqD
  rw [e, e]
  cases i <;> cases j <;> decide
theorem eqX_of {x y : D} {b : Bool} (e : eqD x y = some b) : eqX x y = some b := by unfold eqX; rw [e]
theorem eqX_nil (xs : List D) : eqX (.lst xs) (.lst []) = some xs.isEmpty := by
  have e2 : toP (.lst []) = some (.list []) := by unfold toP toPs; rfl
  cases xs with
  | nil =>
    refine eqX_of ?_
    unfold eqD
    rw [e2]
    decide
  | cons x xs =>
    unfold eqX
    cases q : eqD (.lst (x :: xs)) (.lst []) with
    | none => rfl
    | some b =>
      unfold eqD at q
      rw [e2] at q
      unfold toP toPs at q
      cases q1 : toP x with
      | none => rw [q1] at q; cases q
      | some p =>
        cases q2 : toPs xs with
        | none => rw [q1, q2] at q; cases q
        | some ps =>
          rw [q1, q2] at q
          dsimp only [Option.map_some] at q
          by_cases c : SeqAt.shaped (.list (p :: ps)) = true ∧ SeqAt.shaped (.list []) = true
          · rw [if_pos c] at q; cases q; rfl
          · rw [if_neg c] at q; cases q
end

/-! ### loops over numbers, parts of sequences -/
section
variable {I : Store → Prop} {X : XP} {PS : Fl → Env → Prop}
theorem ws_forR {i : Nat} {body : Sm} {lo : Int} (n : Nat) (J : Nat → Env → Prop) (turn : ∀ k ρ, k < n → J k ρ → Ws I (body (ρ.set i (.val (.int (lo + (k : Nat)))))) (fun fl ρ2 => match fl with
      | .nx => J (k + 1) ρ2
      | .ct => J (k + 1) ρ2
      | .bk => PS .nx ρ2
      | .rt d => PS (.rt d) ρ2) X) (last : ∀ ρ, J n ρ → PS .nx ρ) (ρ : Env) (h : J 0 ρ) : Ws I (forL (bName i) body (rngD lo n) ρ) PS X := by
  refine ws_forL (J := fun ds ρ => ∃ k, k ≤ n ∧ ds = ((List.range n).drop k).map (fun m => D.int (lo + (m : Nat))) ∧ J k ρ) ?_ ?_ _ _ ⟨0, Nat.zero_le _, rfl, h⟩
  · rintro d ds ρ ⟨k, hk, e, j⟩
    by_cases hk' : k < n
    · have hl : k < (List.range n).length := by rw [List.length_range]; exact hk'
      rw [List.drop_eq_getElem_cons hl, List.map_cons, List.getElem_range] at e
      cases e
      refine ⟨_, rfl, (turn k ρ hk' j).imp (fun fl ρ2 q => ?_) fun _ _ x => x⟩
      cases fl with
      | nx => exact ⟨k + 1, hk', rfl, q⟩
      | ct => exact ⟨k + 1, hk', rfl, q⟩
      | bk => exact q
      | rt d => exact q
    · rw [List.drop_eq_nil_of_le (by rw [List.length_range]; omega)] at e
      cases e
  · rintro ρ ⟨k, hk, e, j⟩
    have : ((List.range n).drop k).length = 0 := by
      have := congrArg List.length e
      simpa using this.symm
    rw [List.length_drop, List.length_range] at this
    have hk : k = n := by omega
    subst hk
    exact last ρ j
end
theorem cutD_take {α : Type} (xs : List α) {i : Int} {k : Nat} (e : i = (k : Nat)) : cutD xs none (some i) = xs.take k := by
  subst e
  unfold cutD
  rw [HT.sIx_none, HT.sIx_nat, List.drop_zero, Nat.sub_zero]
  by_cases h : k ≤ xs.length
  · rw [Nat.min_eq_left h]
  · rw [Nat.min_eq_right (by omega), List.take_of_length_le (Nat.le_refl _), List.take_of_length_le (by omega)]
theorem cutD_drop {α : Type} (xs : List α) {i : Int} {k : Nat} (e : i = (k : Nat)) : cutD xs (some i) none = xs.drop k := by
  subst e
  unfold cutD
  rw [HT.sIx_none, HT.sIx_nat]
  by_cases h : k ≤ xs.length
  · rw [Nat.min_eq_left h, List.take_of_length_le (by rw [List.length_drop]; exact Nat.le_refl _)]
  · rw [Nat.min_eq_right (by omega), List.drop_of_length_le (Nat.le_refl _), List.drop_of_length_le (by omega), List.take_nil]
theorem rng_fits {k : Nat} (h : k ≤ 16777216) : -(2 ^ 62) ≤ (k : Int) ∧ (k : Int) < 2 ^ 62 := by
  have a : (-(2 ^ 62) : Int) ≤ 0 := by decide
  have b : (16777216 : Int) < 2 ^ 62 := by decide
  generalize (-(2 ^ 62) : Int) = p at *
  generalize ((2 ^ 62) : Int) = q at *
  omega
theorem wg_rngN {I : Store → Prop} {X : XP} {PL : List D → Prop} {k : Nat} (hk : k ≤ 16777216) (h : PL (rngD 0 k)) : Wp I (rng1 (.int k)) PL X := by
  have h' : PL (rngD 0 (k : Int).toNat) := by rw [Int.toNat_natCast]; exact h
  with_reducible exact wg_rng1 (rng_fits hk) h'
theorem ints_of {Q : Int → Prop} : ∀ {ys : List D}, (∀ y ∈ ys, ∃ i, y = D.int i ∧ Q i) → ∃ xs : List Int, ys = xs.map D.int ∧ ∀ x ∈ xs, Q x
  | [], _ => ⟨[], rfl, fun _ h => by cases h⟩
  | y :: ys, h => by
    obtain ⟨i, rfl, hi⟩ := h y List.mem_cons_self
    obtain ⟨xs, e, a⟩ := ints_of fun z hz => h z (List.mem_cons_of_mem _ hz)
    refine ⟨i :: xs, by rw [List.map_cons, e], fun x hx => ?_⟩
    rcases List.mem_cons.mp hx with rfl | hx
    · exact hi
    · exact a x hx
theorem rngD_len (lo : Int) (n : Nat) : (rngD lo n).length = n := by unfold rngD; rw [List.length_map, List.length_range]
theorem atI_nat {α : Type} {xs : List α} {k : Nat} {i : Int} (e : i = (k : Nat)) (h : k < xs.length) : atI xs i = some xs[k] := by
  subst e
  unfold atI ixN
  rw [if_pos (by omega), if_pos (by omega)]
  exact List.getElem?_eq_getElem (by omega)

/-! ### isinstance by kinds -/
def isIntB : D → Bool
  | .int _ => true
  | .bl _ => true
  | _ => false
def isBl : D → Bool
  | .bl _ => true
  | _ => false
def isTup : D → Bool
  | .tup _ => true
  | _ => false
def isStr : D → Bool
  | .str _ => true
  | _ => false
def Ty (d : D) : Prop := ∃ t, tyD d = some t
theorem isi_tab : (∀ t, isiD "int" t = (t == "int" || t == "bool")) ∧ (∀ t, isiD "bool" t = (t == "bool")) ∧ (∀ t, isiD "tuple" t = (t == "tuple")) ∧ (∀ t, isiD "str" t = (t == "str")) := by
  refine ⟨fun t => ?_, fun t => ?_, fun t => ?_, fun t => ?_⟩ <;> unfold isiD <;> simp
theorem isi_int {d : D} {t : String} (h : tyD d = some t) : isiD "int" t = isIntB d := by rw [isi_tab.1]; cases d <;> cases h <;> simp [isIntB]
theorem isi_bool {d : D} {t : String} (h : tyD d = some t) : isiD "bool" t = isBl d := by rw [isi_tab.2.1]; cases d <;> cases h <;> simp [isBl]
theorem isi_tuple {d : D} {t : String} (h : tyD d = some t) : isiD "tuple" t = isTup d := by rw [isi_tab.2.2.1]; cases d <;> cases h <;> simp [isTup]
theorem isi_str {d : D} {t : String} (h : tyD d = some t) : isiD "str" t = isStr d := by rw [isi_tab.2.2.2]; cases d <;> cases h <;> simp [isStr]
section
variable {I : Store → Prop} {X : XP} {P : D → Prop} {d : D}
theorem wg_isInt (h : Ty d) (q : P (.bl (isIntB d))) : Wp I (gIsi "int" d) P X := by obtain ⟨t, ht⟩ := h; exact wg_isi ht (by rw [isi_int ht]; exact q)
theorem wg_isBool (h : Ty d) (q : P (.bl (isBl d))) : Wp I (gIsi "bool" d) P X := by obtain ⟨t, ht⟩ := h; exact wg_isi ht (by rw [isi_bool ht]; exact q)
theorem wg_isTuple (h : Ty d) (q : P (.bl (isTup d))) : Wp I (gIsi "tuple" d) P X := by obtain ⟨t, ht⟩ := h; exact wg_isi ht (by rw [isi_tuple ht]; exact q)
theorem wg_isStr (h : Ty d) (q : P (.bl (isStr d))) : Wp I (gIsi "str" d) P X := by obtain ⟨t, ht⟩ := h; exact wg_isi ht (by rw [isi_str ht]; exact q)
end
/-! ### texts -/
def FineS (n : Nat) (z : Str) : Prop := z.cps.toList.length ≤ n ∧ ∀ c ∈ z.cps.toList, c < 128
def FineD (d : D) : Prop := (∃ t, tyD d = some t) ∧ ∀ z, d = .str z → FineS 1000 z
theorem len_cps (z : Str) : z.cps.toList.length = z.length := by first | rfl | simp [Str.length]
theorem FineS.le {n m : Nat} {z : Str} (h : FineS n z) (i : n ≤ m) : FineS m z := ⟨Nat.le_trans h.1 i, h.2⟩
theorem FineS.len {n : Nat} {z : Str} (h : FineS n z) : z.length ≤ n := by have := h.1; rw [len_cps] at this; exact this
theorem FineS.ok {n : Nat} {z : Str} (h : FineS n z) : PyData.strOk z = true := by
  unfold PyData.strOk
  rw [Array.all_eq_true_iff_forall_mem]
  intro c hc
  have := h.2 c (Array.mem_toList_iff.mpr hc)
  exact decide_eq_true (by omega)
theorem FineS.append {n m : Nat} {x y : Str} (h : FineS n x) (h' : FineS m y) : FineS (n + m) (x ++ y) := by
  have e : (x ++ y).cps.toList = x.cps.toList ++ y.cps.toList := tl_append x y
  refine ⟨?_, fun c hc => ?_⟩
  · rw [e, List.length_append]; exact Nat.add_le_add h.1 h'.1
  · rw [e] at hc
    exact (List.mem_append.mp hc).elim (h.2 c) (h'.2 c)
theorem FineS.cut {n : Nat} {z : Str} (h : FineS n z) (lo hi : Option Int) : FineS n (cutS z lo hi) := by
  refine ⟨?_, fun c hc => h.2 c ?_⟩
  · show List.length (List.take _ (List.drop _ _)) ≤ n
    have := h.1
    simp only [List.length_take, List.length_drop]
    omega
  · exact List.mem_of_mem_drop (List.mem_of_mem_take hc)
theorem FineS.upper {n : Nat} {z : Str} (h : FineS n z) : FineS n (Txt.upper z) := by
  rw [upper_ascii h.2]
  refine ⟨?_, fun c hc => ?_⟩
  · show (Array.map up1 z.cps).toList.length ≤ n
    rw [Array.toList_map, List.length_map]; exact h.1
  · have hc : c ∈ (Array.map up1 z.cps).toList := hc
    rw [Array.toList_map] at hc
    obtain ⟨a, ha, rfl⟩ := List.mem_map.mp hc
    have := h.2 a ha
    unfold up1
    split <;> omega
theorem FineS.one {c : Nat} (h : c < 128) : FineS 1 ⟨#[c]⟩ := ⟨Nat.le_refl 1, fun x hx => by rcases List.mem_singleton.mp hx with rfl; exact h⟩
theorem joinL_nil : ∀ ys : List (List Nat), joinL [] ys = ys.flatten
  | [] => rfl
  | [p] => by simp [joinL]
  | p :: q :: r => by unfold joinL; rw [joinL_nil (q :: r)]; rfl
theorem tl_join0 (ys : List Str) : (Txt.join "" ys).cps.toList = (ys.map tl).flatten := by
  have := tl_join "" ys
  rw [join_eq]
  exact this.trans (joinL_nil _)
theorem sum_ones : ∀ {ys : List Str}, (∀ y ∈ ys, y.length = 1) → (ys.map (·.length)).sum = ys.length
  | [], _ => rfl
  | y :: ys, h => by
    rw [List.map_cons, List.sum_cons, h y List.mem_cons_self, sum_ones fun z hz => h z (List.mem_cons_of_mem _ hz), List.length_cons]
    omega
theorem FineS.join : ∀ {ys : List Str}, (∀ y ∈ ys, FineS 1 y) → FineS ys.length (Txt.join "" ys) := fun {ys} h => by
  unfold FineS
  rw [tl_join0]
  induction ys with
  | nil => exact ⟨Nat.le_refl 0, fun c hc => by cases hc⟩
  | cons y ys ih =>
    obtain ⟨a, b⟩ := ih fun z hz => h z (List.mem_cons_of_mem _ hz)
    have hy := h y List.mem_cons_self
    rw [List.map_cons, List.flatten_cons]
    refine ⟨?_, fun c hc => ?_⟩
    · rw [List.length_append, List.length_cons]
      have : (tl y).length ≤ 1 := hy.1
      omega
    · exact (List.mem_append.mp hc).elim (hy.2 c) (b c)
end DN
/-! DSo: sorted lists and sets of tuples of ints, by their own order (no bound, any sign). -/
namespace SO
open PySem PyProof.Rows TS
/-- the strict order of tuples of ints -/
def lexB : List Int → List Int → Bool
  | _, [] => false
  | [], _ :: _ => true
  | x :: xs, y :: ys => if x = y then lexB xs ys else decide (x < y)
theorem lex_irr : ∀ a : List Int, lexB a a = false
  | [] => rfl
  | x :: xs => by unfold lexB; rw [if_pos rfl]; exact lex_irr xs
theorem lex_tri : ∀ a b : List Int, lexB a b = true ∨ a = b ∨ lexB b a = true
  | [], [] => .inr (.inl rfl)
  | [], _ :: _ => .inl rfl
  | _ :: _, [] => .inr (.inr rfl)
  | x :: xs, y :: ys => by
    unfold lexB
    by_cases h : x = y
    · subst h
      rw [if_pos rfl, if_pos rfl]
      rcases lex_tri xs ys with h | h | h
      · exact .inl h
      · exact .inr (.inl (by rw [h]))
      · exact .inr (.inr h)
    · rw [if_neg h, if_neg (Ne.symm h), decide_eq_true_eq, decide_eq_true_eq]
      omega
theorem lex_tr : ∀ a b c : List Int, lexB a b = true → lexB b c = true → lexB a c = true
  | [], [], _, h, _ => by cases h
  | [], _ :: _, [], _, h => by cases h
  | [], _ :: _, _ :: _, _, _ => rfl
  | _ :: _, [], _, h, _ => by cases h
  | _ :: _, _ :: _, [], _, h => by cases h
  | x :: xs, y :: ys, z :: zs, h1, h2 => by
    unfold lexB at *
    by_cases e1 : x = y
    · subst e1
      rw [if_pos rfl] at h1
      by_cases e2 : x = z
      · subst e2
        rw [if_pos rfl] at h2 ⊢
        exact lex_tr xs ys zs h1 h2
      · rw [if_neg e2] at h2 ⊢
        exact h2
    · rw [if_neg e1] at h1
      have h1 := of_decide_eq_true h1
      by_cases e2 : y = z
      · subst e2
        rw [if_neg e1]
        exact decide_eq_true h1
      · rw [if_neg e2] at h2
        have h2 := of_decide_eq_true h2
        rw [if_neg (by omega)]
        exact decide_eq_true (by omega)
/-- how many stand ahead -/
def rk (L : List (List Int)) (ns : List Int) : Nat := L.countP fun u => lexB u ns
theorem countP_lt {α : Type} {p q : α → Bool} : ∀ {L : List α}, (∀ x ∈ L, p x = true → q x = true) → (∃ x ∈ L, p x = false ∧ q x = true) → L.countP p < L.countP q
  | [], _, ⟨_, h, _⟩ => by cases h
  | y :: L, h, ⟨x, hx, hp, hq⟩ => by
    have mono : L.countP p ≤ L.countP q := List.countP_mono_left fun z hz => h z (List.mem_cons_of_mem _ hz)
    rcases List.mem_cons.mp hx with rfl | hx
    · rw [List.countP_cons_of_neg (by rw [hp]; decide), List.countP_cons_of_pos hq]
      omega
    · have ih := countP_lt (fun z hz => h z (List.mem_cons_of_mem _ hz)) ⟨x, hx, hp, hq⟩
      cases py : p y with
      | true => rw [List.countP_cons_of_pos py, List.countP_cons_of_pos (h y List.mem_cons_self py)]; omega
      | false =>
        rw [List.countP_cons_of_neg (by rw [py]; decide)]
        cases qy : q y with
        | true => rw [List.countP_cons_of_pos qy]; omega
        | false => rw [List.countP_cons_of_neg (by rw [qy]; decide)]; exact ih
theorem rk_lt {L : List (List Int)} {a b : List Int} (ha : a ∈ L) : rk L a < rk L b ↔ lexB a b = true := by
  constructor
  · intro h
    rcases lex_tri a b with z | z | z
    · exact z
    · subst z; exact absurd h (Nat.lt_irrefl _)
    · have : rk L b ≤ rk L a := List.countP_mono_left fun u _ hu => lex_tr u b a hu z
      omega
  · intro h
    exact countP_lt (fun u _ hu => lex_tr u a b hu h) ⟨a, ha, lex_irr a, h⟩
section
variable {prog : Program} {w : World} {A : Around} {E : Value → Shared → Prop} {s : Shared}
theorem lexI {b : Bool} {Q : Bool → Shared → Prop} : ∀ {xs ys : List Value} {ns ms : List Int} (i : Nat), IntsAre xs ns → IntsAre ys ms → ns.length = ms.length → Q (lexB ns ms) s → PySem.W.KatLex prog w A b false Q (xs.zip ys) i s
  | [], [], _, _, i, .nil, .nil, _, h => PySem.W.kat_nil h
  | [], _ :: _, _, _, _, .nil, .cons _ _ _, hl, _ => by simp at hl
  | _ :: _, [], _, _, _, .cons _ _ _, .nil, hl, _ => by simp at hl
  | _ :: xs, _ :: ys, p :: ns, q :: ms, i, .cons _ t hx, .cons _ u hy, hl, h => by
    have hl' : ns.length = ms.length := by simpa using hl
    show PySem.W.KatLex prog w A b false Q ((Value.int p t, Value.int q u) :: xs.zip ys) i s
    refine PySem.W.kat_cons (wpAny_eqBool_int ?_)
    unfold lexB at h
    by_cases e : p = q
    · subst e
      rw [if_pos rfl] at h
      rw [beq_self_eq_true]
      exact PySem.W.kat_yes (lexI (i + 1) hx hy hl' h)
    · rw [if_neg e] at h
      have ne : (p == q) = false := beq_eq_false_iff_ne.mpr e
      rw [ne]
      exact PySem.W.kat_no (oneLt_ints _ h)
/-- tuples of d ints -/
def Tups (h : Heap) (d : Nat) (vs : List Value) : Prop := ∀ v ∈ vs, ∃ ns, TupInts h v ns ∧ ns.length = d
theorem heads {h : Heap} {d : Nat} (hd : 1 ≤ d) : ∀ vs : List Value, Tups h d vs → ∃ fs, PySem.W.KatTups h vs fs ∧ fs.length = vs.length ∧ ∀ f ∈ fs, ∃ n t, f = Value.int n t
  | [], _ => ⟨[], .nil, rfl, fun _ hf => by cases hf⟩
  | v :: vs, x => by
    obtain ⟨fs, k, kl, ki⟩ := heads hd vs fun u hu => x u (List.mem_cons_of_mem _ hu)
    obtain ⟨ns, ⟨a, xs, rfl, ⟨o, ho, hc, n, hdt⟩, is⟩, hn⟩ := x v List.mem_cons_self
    cases q : xs.toList with
    | nil =>
      have l := is.length
      rw [q, hn] at l
      simp at l
      omega
    | cons y ys =>
      obtain ⟨m, t, hy⟩ := is.all y (by rw [q]; exact List.mem_cons_self)
      have first : xs[0]? = some y := by
        have z := congrArg (fun l : List Value => l[0]?) q
        simpa using z
      refine ⟨y :: fs, PySem.W.KatTups.cons ho hc hdt first k, by simp [kl], fun f hf => ?_⟩
      rcases List.mem_cons.mp hf with rfl | hf
      · exact ⟨m, t, hy⟩
      · exact ki f hf
/-- the rank of a value: of its ints, among L -/
def rkV (L : List (List Int)) (h : Heap) (v : Value) : Int := (rk L (intsOf h v) : Nat)
theorem kindT {L : List (List Int)} {d : Nat} {vs : List Value} (hd : 1 ≤ d) (two : 2 ≤ vs.length) (x : Tups s.heap d vs) (r : Value → Int) (hr : ∀ v ∈ vs, r v = rkV L s.heap v) (hL : ∀ v ∈ vs, intsOf s.heap v ∈ L) (Q : SortKind → Shared → Prop)
    (h : ∀ κ, Cmp prog w A s κ (pairsOf vs) r → Q κ s) : wpAny (model prog w) A (keyKind' vs.toArray) Q E s := by
  obtain ⟨fs, k, kl, ki⟩ := heads hd vs x
  refine PySem.W.kat_kind (T := Value.type "int") k (by omega) (fun f hf => ?_) rfl (h _ ?_)
  · obtain ⟨n, t, e⟩ := ki f hf
    rw [e]
    exact PySem.W.Looks.of_pure rfl
  intro p q hp hq Q' E' hQ
  rw [pairsOf_toList] at hp hq
  have mp := (mem_zip_self hp).2
  have mq := (mem_zip_self hq).2
  obtain ⟨ns, tp, lp⟩ := x _ mp
  obtain ⟨ms, tq, lq⟩ := x _ mq
  have ip := tp.ints
  have iq := tq.ints
  have z : decide (r p.1 < r q.1) = lexB ns ms := by
    rw [hr _ mp, hr _ mq]
    unfold rkV
    rw [ip, iq]
    have m : ns ∈ L := by rw [← ip]; exact hL _ mp
    have g := rk_lt (b := ms) m
    cases c : lexB ns ms with
    | true =>
      have := g.mpr c
      exact decide_eq_true (by omega)
    | false =>
      refine decide_eq_false fun y => ?_
      have := g.mp (by omega)
      rw [c] at this
      cases this
  rw [z] at hQ
  obtain ⟨a, xs, e1, ⟨o, ho, hc, n, hdt⟩, is⟩ := tp
  obtain ⟨a', ys, e2, ⟨o', ho', hc', n', hdt'⟩, is'⟩ := tq
  rw [e1, e2]
  refine PySem.W.kat_lt ho hdt ho' hdt' ?_
  have l1 := is.length
  have l2 := is'.length
  rw [Array.length_toList] at l1 l2
  have sz : decide (xs.size < ys.size) = false := decide_eq_false (by omega)
  rw [sz]
  exact lexI 0 is is' (by omega) hQ
theorem Tups.keeps {h h' : Heap} {d : Nat} {vs : List Value} (x : Tups h d vs) (k : ∀ b o, h.get? b = some o → o.cls = .type "tuple" → h'.get? b = some o) : Tups h' d vs := fun v hv =>
  let ⟨ns, t, l⟩ := x v hv; ⟨ns, t.keeps k, l⟩
/-- u does not stand behind v -/
def LeV (h : Heap) (u v : Value) : Prop := lexB (intsOf h v) (intsOf h u) = false
theorem sortT {a : Addr} {vs : List Value} {n d : Nat} {P : PySem.Fin → Shared → Prop} (ho : s.heap.get? a = some (seqObj "list" vs.toArray n)) (h64 : vs.length < 64) (hd : 1 ≤ d) (x : Tups s.heap d vs)
    (h : ∀ out : Array Value, out.toList.Perm vs → out.toList.Pairwise (LeV s.heap) → P (.done (.ret .none)) { s with heap := sortedHeap s.heap a vs out }) : wpAny (model prog w) A (Builtin.«list.sort» ⟨[.ref a], []⟩) P E s := by
  have keep : ∀ b o, s.heap.get? b = some o → o.cls = .type "tuple" → (midHeap s.heap a vs).get? b = some o := by
    intro b o e hc
    refine midHeap_old (fun z => ?_) e
    subst z
    rw [ho] at e
    have e := Option.some.inj e
    rw [← e] at hc
    have hc : Value.type "list" = Value.type "tuple" := hc
    injection hc with hc
    revert hc
    decide
  have same : ∀ v ∈ vs, intsOf (midHeap s.heap a vs) v = intsOf s.heap v := fun v hv => by
    obtain ⟨ns, t, _⟩ := x v hv
    rw [t.ints, (t.keeps keep).ints]
  refine SK.plain_sort (r := rkV (vs.map (intsOf s.heap)) s.heap) ho h64 (fun two Q hQ => ?_) fun ps out h1 h2 h3 => ?_
  · refine kindT (L := vs.map (intsOf s.heap)) (s := { s with heap := midHeap s.heap a vs }) hd two (x.keeps keep) _ (fun v hv => ?_) (fun v hv => ?_) Q hQ
    · unfold rkV; rw [same v hv]
    · show intsOf (midHeap s.heap a vs) v ∈ _
      rw [same v hv]
      exact List.mem_map.mpr ⟨v, hv, rfl⟩
  · obtain ⟨pm, od⟩ := out_rank h1 h2 h3
    refine h out pm (od.imp_of_mem fun {u v} hu hv hle => ?_)
    unfold LeV
    cases c : lexB (intsOf s.heap v) (intsOf s.heap u) with
    | false => rfl
    | true =>
      have m : intsOf s.heap v ∈ vs.map (intsOf s.heap) := List.mem_map.mpr ⟨v, pm.mem_iff.mp hv, rfl⟩
      have := (rk_lt (b := intsOf s.heap u) m).mpr c
      unfold rkV at hle
      omega
end
end SO
/-! DSp: sorted(..) of a list and of a set of tuples of ints. -/
namespace SO
open PySem PyProof.Rows TS
section
variable {prog : Program} {w : World} {A : Around} {E : Value → Shared → Prop} {s : Shared}
theorem callSort {a : Addr} {vs : List Value} {n d : Nat} {Q : Value → Shared → Prop} (ho : s.heap.get? a = some (seqObj "list" vs.toArray n)) (few : vs.length < 64) (hd : 1 ≤ d) (x : Tups s.heap d vs)
    (h : ∀ out : Array Value, out.toList.Perm vs → out.toList.Pairwise (LeV s.heap) → Q .none { s with heap := sortedHeap s.heap a vs out }) : wpAny (model prog w) A (call (.builtin "list.sort") [.ref a]) Q E s := by
  have body := fun P hP => sortT (prog := prog) (w := w) (A := A.in1) (E := E) (P := P) ho few hd x hP
  refine wpAny_call_entry slot_list_sort ⟨_, ho, rfl⟩ entry_list_sort ?_ (args_list_sort _)
  exact sortT ho few hd x fun out pm od => ⟨_, rfl, h out pm od⟩
theorem sortedT {l : Addr} {vs : List Value} {d : Nat} {Q : Value → Shared → Prop} (hl : s.heap.IsList l vs.toArray) (few : vs.length < 64) (hd : 1 ≤ d) (x : Tups s.heap d vs)
    (h : ∀ out : Array Value, out.toList.Perm vs → out.toList.Pairwise (LeV s.heap) → Q (.ref (s.heap.objs.size + 1)) { s with heap := sortedAll s.heap vs out }) : wpAny (model prog w) A (call (.builtin "sorted") [.ref l]) Q E s := by
  have fits : vs.length ≤ sizeLine := by rw [sizeLine_eq]; omega
  refine Calls.call_function_entry kind_sorted plain_sorted entry_sorted (args_sorted1 _) ?_
  unfold Builtin.«sorted»
  refine wpAny_bind (m := checkCount "sorted" 1 1 _) (wpAny_pure (wpAny_bind (collect_list hl ?_ fits)))
  refine wpAny_bind (wpAny_newList ?_ fits)
  generalize eh : (s.heap.push (seqObj "list" #[] 0)).update s.heap.objs.size (Obj.mapSeq (· ++ vs.toArray)) = h1
  have sz : h1.objs.size = s.heap.objs.size + 1 := by rw [← eh, Heap.size_update, size_push']
  have old : ∀ b o, s.heap.get? b = some o → h1.get? b = some o := fun b o q => by
    have lt : b < s.heap.objs.size := Heap.lt_size q
    rw [← eh, Heap.get?_update_ne _ _ _ _ (Nat.ne_of_lt lt), Heap.get?_push_ne _ _ _ (Nat.ne_of_lt lt)]
    exact q
  have old2 : ∀ b o, s.heap.get? b = some o → (h1.push (seqObj "list" vs.toArray 0)).get? b = some o := fun b o q => by
    have lt : b < s.heap.objs.size := Heap.lt_size q
    rw [Heap.get?_push_ne _ _ _ (by rw [sz]; exact Nat.ne_of_lt (Nat.lt_succ_of_lt lt))]
    exact old b o q
  have new : (h1.push (seqObj "list" vs.toArray 0)).get? (s.heap.objs.size + 1) = some (seqObj "list" vs.toArray 0) := by
    rw [← sz]
    exact Heap.get?_push_size _ rfl
  have same : ∀ v ∈ vs, intsOf (h1.push (seqObj "list" vs.toArray 0)) v = intsOf s.heap v := fun v hv => by
    obtain ⟨ns, t, _⟩ := x v hv
    rw [t.ints, (t.keeps fun b o q _ => old2 b o q).ints]
  show wpAny _ _ _ _ _ { s with heap := h1.push (seqObj "list" vs.toArray 0) }
  rw [sz]
  refine wpAny_bind (wpAny_holding (callSort (s := { s with heap := h1.push (seqObj "list" vs.toArray 0) }) new few hd (x.keeps fun b o q _ => old2 b o q) fun out pm od => ?_))
  refine wpAny_pure ⟨_, rfl, ?_⟩
  have fin := h out pm (od.imp_of_mem fun {u v} hu hv le => by
    have le : lexB (intsOf (h1.push (seqObj "list" vs.toArray 0)) v) (intsOf (h1.push (seqObj "list" vs.toArray 0)) u) = false := le
    rw [same u (pm.mem_iff.mp hu), same v (pm.mem_iff.mp hv)] at le
    exact le)
  have e : sortedHeap (h1.push (seqObj "list" vs.toArray 0)) (s.heap.objs.size + 1) vs out = sortedAll s.heap vs out := by
    rw [← eh]
    first | rfl | (unfold sortedAll; rfl)
  rw [← e] at fin
  exact fin
end
end SO

namespace L2
open PySem PySem.Spec PyProof.Rows
section
variable {P : Program} {w : World} {A : Around} {E : Value → Shared → Prop} {s : Shared}
/-- the values are rows of L -/
theorem rows_of (L : List (Addr × List Int)) : ∀ vs : List Value, (∀ v ∈ vs, ∃ q ∈ L, v = Value.ref q.1) → ∃ M : List (Addr × List Int), vs = M.map (fun q => Value.ref q.1) ∧ ∀ q ∈ M, q ∈ L
  | [], _ => ⟨[], rfl, fun _ h => by cases h⟩
  | v :: vs, h => by
    obtain ⟨q, hq, rfl⟩ := h v List.mem_cons_self
    obtain ⟨M, rfl, hM⟩ := rows_of L vs fun u hu => h u (List.mem_cons_of_mem _ hu)
    refine ⟨q :: M, rfl, fun r hr => ?_⟩
    rcases List.mem_cons.mp hr with rfl | hr
    · exact hq
    · exact hM r hr
theorem sortedS {a : Addr} {L : List (Addr × List Int)} {es : Array (Int × Value)} {ep : Nat} {t : SetTable} {Q : Value → Shared → Prop} (R : SetTR P w s.heap a L es ep t) (hh : A.handled = none) {d : Nat} (hd : 1 ≤ d) (hB : ∀ p ∈ L, p.2.length = d)
    (hQ : ∀ s' p (out : Array Value) (c : Nat) (M : List (Addr × List Int)), (∀ b o, s.heap.get? b = some o → s'.heap.get? b = some o) → s'.gens = s.gens → s'.os = s.os → s.heap.objs.size ≤ p →
      s'.heap.get? p = some (seqObj "list" out c) → out.toList = M.map (fun q => Value.ref q.1) → M.Perm L → M.Pairwise (fun q r => SO.lexB r.2 q.2 = false) → Q (.ref p) s') : wpAny (model P w) A (call (.builtin "sorted") [.ref a]) Q E s := by
  obtain ⟨o, ho, hex, hdt⟩ := R.ob
  have few := R.few
  have rsz := R.size
  refine Calls.call_function_entry kind_sorted plain_sorted entry_sorted (args_sorted1 _) ?_
  unfold Builtin.«sorted»
  refine wpAny_bind (m := checkCount "sorted" 1 1 _) (wpAny_pure ?_)
  refine wpAny_bind (collect_set (A := A.in1) hh ⟨o, ho, hex.1, hdt⟩ R.fits (by unfold scanBound; omega) R.tab.ris R.led fun s1 vs keep1 big g1 o1 pm => ?_)
  have vals : es.toList.map (·.2) = L.map fun q => Value.ref q.1 := by
    rw [R.rows]
    unfold rowsOf
    rw [List.map_map]
    rfl
  rw [vals] at pm
  have inj : ∀ q ∈ L, ∀ r ∈ L, q.1 = r.1 → q = r := fun q hq r hr e => by
    have tq := R.tup q hq
    rw [e] at tq
    exact Prod.ext e (tq.inj (R.tup r hr))
  have nd : L.Nodup := nodup_of_map R.nd
  have back : ∀ M : List (Addr × List Int), (∀ q ∈ M, q ∈ L) → (M.map (fun q => Value.ref q.1)).Perm (L.map fun q => Value.ref q.1) → M.Perm L := by
    intro M hM pM
    have ndR : (L.map fun q => Value.ref q.1).Nodup := List.pairwise_map.mpr (nd.imp_of_mem fun {q r} hq hr ne e => ne (inj q hq r hr (by injection e)))
    refine (List.perm_ext_iff_of_nodup (nodup_of_map (pM.nodup_iff.mpr ndR)) nd).mpr fun q => ⟨hM q, fun hq => ?_⟩
    obtain ⟨r, hr, e⟩ := List.mem_map.mp (pM.mem_iff.mpr (List.mem_map.mpr ⟨q, hq, rfl⟩))
    have e : r.1 = q.1 := by injection e
    rw [← inj r (hM r hr) q hq e]
    exact hr
  have vlen : vs.length < 64 := by rw [pm.length_eq, List.length_map]; exact few
  refine wpAny_bind (wpAny_newList ?_ (by rw [sizeLine_eq]; omega))
  generalize eh : s1.heap.push (seqObj "list" vs.toArray 0) = h2
  have new : h2.get? s1.heap.objs.size = some (seqObj "list" vs.toArray 0) := by rw [← eh]; exact Heap.get?_push_size _ rfl
  have old : ∀ b u, s.heap.get? b = some u → h2.get? b = some u := fun b u q => by rw [← eh]; exact Heap.get?_push_of_some _ (keep1 b u q)
  have tk : ∀ q ∈ L, TS.TupInts h2 (.ref q.1) q.2 := fun q hq => tupInts_of (P := P) (w := w) (isT_keep (R.tup q hq) old)
  have x : SO.Tups h2 d vs := fun v hv => by
    obtain ⟨q, hq, e⟩ := List.mem_map.mp (pm.mem_iff.mp hv)
    rw [← e]
    exact ⟨q.2, tk q hq, hB q hq⟩
  refine wpAny_bind (wpAny_holding (SO.callSort (s := { s1 with heap := h2 }) new vlen hd x fun out a1 a2 => ?_))
  obtain ⟨c, hc⟩ := sortedHeap_at (vs := vs) (out := out) new
  obtain ⟨M, eM, sM⟩ := rows_of L out.toList fun v hv => by
    obtain ⟨q, hq, e⟩ := List.mem_map.mp (pm.mem_iff.mp (a1.mem_iff.mp hv))
    exact ⟨q, hq, e.symm⟩
  refine wpAny_pure ⟨_, rfl, hQ _ s1.heap.objs.size out c M (fun b u q => ?_) g1 o1 big hc eM (back M sM (by rw [← eM]; exact a1.trans pm)) ?_⟩
  · have lt := Heap.lt_size (keep1 b u q)
    show (sortedHeap h2 s1.heap.objs.size vs out).get? b = some u
    rw [sortedHeap_old (Nat.ne_of_lt lt) (by rw [← eh, size_push']; exact Nat.lt_succ_of_lt lt)]
    exact old b u q
  · rw [eM] at a2
    refine (List.pairwise_map.mp a2).imp_of_mem fun {q r} hq hr le => ?_
    have le : SO.lexB (TS.intsOf h2 (.ref r.1)) (TS.intsOf h2 (.ref q.1)) = false := le
    rw [(tk q (sM q hq)).ints, (tk r (sM r hr)).ints] at le
    exact le
end
section
variable {X : Cx}
/-- sorted(set) of tuples of d ints -/
def rSortS (K : PySem.W.Frag) (P : Program) (w : World) : List V → Hp → VK → Prop := fun vs H Q => ∃ (a : Addr) (L : List (Addr × List Int)) (d : Nat), vs = [V.ref a] ∧ H a = some (SetTO P w a L) ∧ (∀ p ∈ L, SqT K H p.1 (p.2.map V.int)) ∧ 1 ≤ d ∧ (∀ p ∈ L, p.2.length = d) ∧
  ∀ (M : List (Addr × List Int)) (p : Addr), M.Perm L → (M.map (·.2)).Nodup → M.Pairwise (fun q r => SO.lexB r.2 q.2 = false) → H p = none → Q (.ref p) (upd H p (.lst (M.map fun q => V.ref q.1)))
theorem cr_sortS (hc : X.calm = true) : CallR X (.builtin "sorted") (rSortS X.K X.prog X.w) := by
  intro pins s σ H vs us Q I r ⟨a, L, d, ev, ha, hk, hd, hB, q⟩
  subst ev
  obtain ⟨es, ep, t, R⟩ := SetT0.full (I.hok a _ ha).1 fun p hp => I.isT (hk p hp)
  rw [Vals.ref1 r]
  refine sortedS R (I.ok.hd hc) hd hB fun s' p out c M keep g o big at_ eM pm od => ?_
  have few : M.length < 64 := by rw [pm.length_eq]; exact R.few
  have fresh : H p = none := I.hok.fresh big
  have len : (M.map fun q => V.ref q.1).length ≤ sizeLine := by rw [List.length_map, sizeLine_eq]; omega
  have vals : Vals (M.map fun q => V.ref q.1) out.toList := by rw [eM]; exact vals_of_refs M
  have e : s' = { s with heap := s'.heap, gens := s'.gens, drawn := s'.drawn, toks := s'.toks } := by
    cases s'
    cases s
    cases o
    rfl
  have J : Inv X pins σ (upd H p (.lst (M.map fun q => V.ref q.1))) { s with heap := s'.heap, gens := s'.gens, drawn := s'.drawn, toks := s'.toks } :=
    I.call (ch := []) (Un.laid keep big fresh) (I.hok.laid keep big ⟨len, out.toList, c, vals, at_⟩) (by rw [g]; exact I.bare) (fun _ z => nomatch z)
  rw [e]
  exact ⟨.ref p, _, J, rfl, q M p pm ((pm.map (·.2)).nodup_iff.mpr R.nd) od fresh⟩
/-- sorted(list) of tuples of d ints -/
def rSortL (K : PySem.W.Frag) : List V → Hp → VK → Prop := fun vs H Q => ∃ (a : Addr) (ks : List (Addr × List Int)) (d : Nat), vs = [V.ref a] ∧ SqL K H a (ks.map fun p => V.ref p.1) ∧ (∀ p ∈ ks, SqT K H p.1 (p.2.map V.int)) ∧ ks.length < 64 ∧ 1 ≤ d ∧ (∀ p ∈ ks, p.2.length = d) ∧
  ∀ (M : List (Addr × List Int)) (p : Addr), (∀ q ∈ M, q ∈ ks) → (M.map (·.2)).Perm (ks.map (·.2)) → M.Pairwise (fun q r => SO.lexB r.2 q.2 = false) → H p = none → Q (.ref p) (upd H p (.lst (M.map fun q => V.ref q.1)))
theorem cr_sortL : CallR X (.builtin "sorted") (rSortL X.K) := by
  intro pins s σ H vs us Q I r ⟨a, ks, d, ev, hs, hk, few, hd, hB, q⟩
  subst ev
  rw [Vals.ref1 r]
  obtain ⟨its, rv, hl, hz⟩ := I.list hs
  have ei : its = ks.map fun p => Value.ref p.1 := refs_of_vals rv
  have tk : ∀ p ∈ ks, TS.TupInts s.heap (.ref p.1) p.2 := fun p hp => tupI_raw I (hk p hp)
  refine SO.sortedT (d := d) hl.isList (by rw [ei, List.length_map]; exact few) hd (fun v hv => ?_) fun out a1 a2 => ?_
  · rw [ei] at hv
    obtain ⟨p, hp, e⟩ := List.mem_map.mp hv
    rw [← e]
    exact ⟨p.2, tk p hp, hB p hp⟩
  rw [ei] at a1
  obtain ⟨M, eM, sM⟩ := rows_of ks out.toList fun v hv => by
    obtain ⟨p, hp, e⟩ := List.mem_map.mp (a1.mem_iff.mp hv)
    exact ⟨p, hp, e.symm⟩
  obtain ⟨ep, at_⟩ := PyProof.Rows.sortedAll_at s.heap its out
  have mlen : M.length = ks.length := by
    have := a1.length_eq
    rw [eM, List.length_map, List.length_map] at this
    exact this
  have len : (M.map fun q => V.ref q.1).length ≤ sizeLine := by rw [List.length_map, sizeLine_eq]; omega
  have vals : Vals (M.map fun q => V.ref q.1) out.toList := by rw [eM]; exact vals_of_refs M
  refine ⟨.ref _, upd H (s.heap.objs.size + 1) (.lst (M.map fun q => V.ref q.1)), I.laid (t' := s.toks) (fun _ _ => PyProof.Rows.sortedAll_old) (Nat.le_succ _) ⟨len, out.toList, ep, vals, at_⟩, rfl, q M _ sM ?_ ?_ (I.hok.fresh (Nat.le_succ _))⟩
  · have f : ∀ N : List (Addr × List Int), (∀ p ∈ N, p ∈ ks) → N.map (·.2) = (N.map fun p => Value.ref p.1).map (TS.intsOf s.heap) := fun N hN => by
      rw [List.map_map]
      refine List.map_congr_left fun p hp => ?_
      exact (tk p (hN p hp)).ints.symm
    rw [f M sM, f ks fun _ h => h, ← eM]
    exact a1.map _
  · rw [eM] at a2
    refine (List.pairwise_map.mp a2).imp_of_mem fun {p r} hp hr le => ?_
    have le : SO.lexB (TS.intsOf s.heap (.ref r.1)) (TS.intsOf s.heap (.ref p.1)) = false := le
    rw [(tk p (sM p hp)).ints, (tk r (sM r hr)).ints] at le
    exact le
end
end L2
/-! DSq: set(..) of a tuple of tuples of ints. -/
namespace L2
open PySem PySem.Spec PyProof.Rows
section
variable {P : Program} {w : World} {A : Around} {E : Value → Shared → Prop} {s : Shared}
abbrev bareSet (w : World) : Obj := { cls := .type "set", dict := none, data := .set #[] 0 (.fresh 0 0 (!w.params.followText "set-order")) }
theorem setOfTuple {l : Addr} {items : Array Value} (ks : List (Addr × List Int)) {Q : Value → Shared → Prop} (free : A.handled = none) (hl : s.heap.IsTuple l items) (hit : items.toList = ks.map fun p => Value.ref p.1)
    (hk : ∀ p ∈ ks, IsT P w s.heap p.2 p.1) (few : ks.length < 64) (room : A.units + 3 < cLine)
    (h : ∀ (h' : Heap) (tk : Nat) L es ep t, SetTR P w h' s.heap.objs.size L es ep t → Got ks ks.length L → (∀ b o, s.heap.get? b = some o → h'.get? b = some o) → Q (.ref s.heap.objs.size) { s with heap := h', toks := tk }) :
    wpAny (model P w) A (call (.type "set") [.ref l]) Q E s := by
  have many : items.size = ks.length := by
    have z := congrArg List.length hit
    simpa using z
  obtain ⟨c, tl, hmro⟩ := F.called_set.mro
  have hmade := F.called_set.made
  have hsub := F.called_set.sub
  refine wpAny_call (codeAny_of_tree ?_)
  show wpAny _ _ (callAny (.type "set") _) _ _ _
  have quiet := Code.quiet_builtin (id := "type.__call__") ⟨[.type "set", .ref l], []⟩ (by decide +kernel)
  refine wpAny_pure ⟨Code.quiet_builtin _ (by decide +kernel), codeAny_builtin F.entry_type_call ?_⟩
  rw [Around.under_plain (weight_type_call_type "set" [.ref l] []) rfl]
  have n1 := F.called_set.notType
  have n2 := F.called_set.canCreate
  have n3 := F.typeCall_set_1 (.ref l)
  repeat (any_goals (first | assumption | wp_step))
  refine codeAny_mono (code_set_led1 (.ref l) (E := E) (Q₁ := fun obj s₁ => obj = .ref s.heap.objs.size ∧ s₁ = { s with heap := s.heap.push (bareSet w) }) ⟨rfl, rfl⟩) fun r s₁ hr => ?_
  cases r with
  | error e => exact hr
  | ok fl =>
    cases fl with
    | ret obj =>
      obtain ⟨rfl, rfl⟩ := hr
      have got : (s.heap.push (bareSet w)).get? s.heap.objs.size = some (bareSet w) := Heap.get?_push_size _ rfl
      have hT : Shared.TypeIs { s with heap := s.heap.push (bareSet w) } (.ref s.heap.objs.size) "set" := ⟨_, got, rfl⟩
      have i1 := F.called_set.init.lookup
      have i2 := F.called_set.init.bind (.ref s.heap.objs.size)
      repeat (any_goals (first | assumption | wp_step))
      refine codeAny_mono (codeAny_call_builtin (R := wants (fun r s₂ => r = .none ∧ ∃ h' tk L es ep t, s₂ = { s with heap := h', toks := tk } ∧ SetTR P w h' s.heap.objs.size L es ep t ∧ Got ks ks.length L ∧ (∀ b o, s.heap.get? b = some o → h'.get? b = some o)) E)
        F.called_set.init.plain F.entry_set_init (check_set_init_1 hT ?_)) fun r₂ s₂ hr₂ => ?_
      · obtain ⟨ol, hol, hcl, nl, hdl⟩ := hl
        obtain ⟨ocls, odict, odata, oslots⟩ := ol
        simp only at hcl hdl
        subst hcl hdl
        have there : (s.heap.push (bareSet w)).get? l = some { cls := .type "tuple", dict := odict, data := .seq items nl, slots := oslots } := Heap.get?_push_of_some _ hol
        have k1 := F.sub_tuple_set
        have k2 := F.sub_tuple_frozenset
        have k3 : (Value.type "tuple" == Value.type "dict") = false := by decide
        have it1 : (s.heap.push (bareSet w)).IsTuple l items := ⟨_, there, rfl, nl, rfl⟩
        unfold Builtin.«set.__init__» noKeywords Builtin.Frozenset.updateFrom
        generalize keep_pyIter : pyIter = PI
        wp_walk
        subst keep_pyIter
        refine wpAny_pyIter_tuple it1 ?_
        refine wpAny_bind (wpAny_runValue ?_)
        have below : l < s.heap.objs.size := Heap.lt_size hol
        have free3 : A.in1.in1.in1.handled = none := by simp [free]
        have other : l ≠ (s.heap.push (bareSet w)).objs.size := by
          rw [Heap.size_push]
          exact Nat.ne_of_lt (Nat.lt_succ_of_lt below)
        have apart : s.heap.objs.size ∉ [(s.heap.push (bareSet w)).objs.size, l] := by
          rw [Heap.size_push]
          simp only [List.mem_cons, List.mem_singleton, List.not_mem_nil, or_false, not_or]
          exact ⟨Nat.ne_of_lt (Nat.lt_succ_self _), Nat.ne_of_gt below⟩
        have vals : ∀ (i : Nat) (v : Value), items[i]? = some v → ∃ p, ks[i]? = some p ∧ v = .ref p.1 := fun i v hv => by
          have z : items.toList[i]? = some v := by rw [Array.getElem?_toList]; exact hv
          rw [hit, List.getElem?_map, Option.map_eq_some_iff] at z
          obtain ⟨p, e1, e2⟩ := z
          exact ⟨p, e1, e2.symm⟩
        have none_of : ∀ b, s.heap.objs.size ≤ b → s.heap.get? b = none := fun b hb => by
          cases z : s.heap.get? b with
          | none => rfl
          | some o => exact absurd (Heap.lt_size z) (Nat.not_lt.mpr hb)
        refine set_update_tups ((Walks.tuple free3 _ l other items).toS) s.heap.objs.size apart ks many few vals s.heap hk (none_of _ (Nat.le_refl _)) (fun b hb => none_of b (by
            rw [List.mem_singleton.mp hb, Heap.size_push]
            exact Nat.le_succ _)) room (items.size - 0) 0 _ (by omega) (Nat.zero_le _) ⟨⟨_, Heap.get?_push_size _ rfl, rfl, rfl⟩, (it1.push _)⟩ (fun b o e => Heap.get?_push_of_some _ (Heap.get?_push_of_some _ e)) ?start ?done
        case start => exact ⟨[], #[], 0, _, setTR_fresh (Heap.get?_push_of_some _ got), Got.zero ks⟩
        case done =>
          intro s' L es ep t hm hS' g' hkp
          obtain ⟨h', g2, d', tk', os'⟩ := s'
          have eg : g2 = s.gens := hm.gens
          have ed : d' = s.drawn := hm.drawn
          have eo : os' = s.os := hm.os
          subst eg ed eo
          rw [many] at g'
          show wpAny _ _ _ _ _ _
          refine wpAny_pure ?_
          show wpAny _ _ (ret Value.none) _ _ _
          exact wpAny_pure ⟨rfl, h', tk', L, es, ep, t, rfl, hS', g', hkp⟩
      · cases r₂ with
        | error e => exact hr₂
        | ok fl₂ =>
          cases fl₂ with
          | ret r =>
            obtain ⟨rfl, h', tk, L, es, ep, t, rfl, hS', g', hk'⟩ := hr₂
            repeat (any_goals (first | assumption | wp_step))
            exact h _ _ _ _ _ _ hS' g' hk'
          | _ => exact hr₂.elim
    | _ => exact hr.elim
end
section
variable {X : Cx}
/-- set of a list or a tuple of tuples of ints -/
def rSetA (K : PySem.W.Frag) (P : Program) (w : World) : List V → Hp → VK → Prop := fun xs H Q => ∃ (l : Addr) (ks : List (Addr × List Int)), xs = [V.ref l] ∧ (SqL K H l (ks.map fun p => V.ref p.1) ∨ SqT K H l (ks.map fun p => V.ref p.1)) ∧ (∀ p ∈ ks, SqT K H p.1 (p.2.map V.int)) ∧ ks.length < 64 ∧
  ∀ a L, H a = none → (∀ p ∈ L, p ∈ ks) → (∀ p ∈ ks, p.2 ∈ L.map (·.2)) → Q (.ref a) (upd H a (SetTO P w a L))
theorem cr_setA (hc : X.calm = true) (hu : X.A.units + 64 < cLine) : CallR X (.type "set") (rSetA X.K X.prog X.w) := by
  intro pins s σ H xs us Q I r ⟨l, ks, ex, hl, hk, few, q⟩
  rcases hl with hl | hl
  · exact cr_setOfT hc hu pins s σ H xs us Q I r ⟨l, ks, ex, hl, hk, few, q⟩
  subst ex
  rw [Vals.ref1 r]
  obtain ⟨its, rv, pl, hz⟩ := I.tuple hl
  have fresh : H s.heap.objs.size = none := I.hok.fresh (Nat.le_refl _)
  refine setOfTuple (P := X.prog) (w := X.w) ks (I.ok.hd hc) pl (by simpa using refs_of_vals rv) (fun p hp => I.isT (hk p hp)) few (by omega) fun h' tk L es ep t R g k => ?_
  refine ⟨.ref s.heap.objs.size, upd H s.heap.objs.size (SetTO X.prog X.w s.heap.objs.size L), I.laid (t' := tk) k (Nat.le_refl _) (setTO_new R.t0), rfl, q _ L fresh (fun p hp => List.mem_of_mem_take (g.sub p hp)) fun p hp => g.all p ?_⟩
  rw [List.take_length]
  exact hp
end
end L2
/-! DSr: sorted(set(..)) and sorted(..) of tuples of ints, of data. -/
namespace SO
def insS (k : List Int) : List (List Int) → List (List Int)
  | [] => [k]
  | x :: xs => if lexB k x = true then k :: x :: xs else if k = x then x :: xs else x :: insS k xs
def sortS (ks : List (List Int)) : List (List Int) := ks.foldr insS []
def insL (k : List Int) : List (List Int) → List (List Int)
  | [] => [k]
  | x :: xs => if lexB x k = true then x :: insL k xs else k :: x :: xs
def sortL (ks : List (List Int)) : List (List Int) := ks.foldr insL []
abbrev Asc (ks : List (List Int)) : Prop := ks.Pairwise fun a b => lexB a b = true
theorem mem_insS {k z : List Int} : ∀ {xs : List (List Int)}, z ∈ insS k xs ↔ z = k ∨ z ∈ xs
  | [] => by unfold insS; simp
  | x :: xs => by
    unfold insS
    split
    · simp
    · split
      · rename_i h; subst h; simp
      · rw [List.mem_cons, mem_insS, List.mem_cons]
        constructor
        · rintro (h | h | h)
          · exact .inr (.inl h)
          · exact .inl h
          · exact .inr (.inr h)
        · rintro (h | h | h)
          · exact .inr (.inl h)
          · exact .inl h
          · exact .inr (.inr h)
theorem asc_insS {k : List Int} : ∀ {xs : List (List Int)}, Asc xs → Asc (insS k xs)
  | [], _ => by unfold insS; exact List.pairwise_singleton ..
  | x :: xs, h => by
    have hx := List.pairwise_cons.mp h
    unfold insS
    split
    · rename_i c
      refine List.pairwise_cons.mpr ⟨fun z hz => ?_, h⟩
      rcases List.mem_cons.mp hz with rfl | hz
      · exact c
      · exact lex_tr _ _ _ c (hx.1 z hz)
    · split
      · exact h
      · rename_i c1 c2
        refine List.pairwise_cons.mpr ⟨fun z hz => ?_, asc_insS hx.2⟩
        rcases mem_insS.mp hz with rfl | hz
        · rcases lex_tri x z with t | t | t
          · exact t
          · exact absurd t.symm c2
          · exact absurd t c1
        · exact hx.1 z hz
theorem mem_sortS {z : List Int} : ∀ {ks : List (List Int)}, z ∈ sortS ks ↔ z ∈ ks
  | [] => Iff.rfl
  | k :: ks => by
    show z ∈ insS k (sortS ks) ↔ _
    rw [mem_insS, mem_sortS, List.mem_cons]
theorem asc_sortS : ∀ ks : List (List Int), Asc (sortS ks)
  | [] => List.Pairwise.nil
  | _ :: ks => asc_insS (asc_sortS ks)
theorem asc_uniq : ∀ {as bs : List (List Int)}, Asc as → Asc bs → (∀ z, z ∈ as ↔ z ∈ bs) → as = bs
  | [], [], _, _, _ => rfl
  | [], b :: bs, _, _, h => by have := (h b).mpr List.mem_cons_self; cases this
  | a :: as, [], _, _, h => by have := (h a).mp List.mem_cons_self; cases this
  | a :: as, b :: bs, ha, hb, h => by
    have ha' := List.pairwise_cons.mp ha
    have hb' := List.pairwise_cons.mp hb
    have e : a = b := by
      rcases List.mem_cons.mp ((h a).mp List.mem_cons_self) with e | e
      · exact e
      · rcases List.mem_cons.mp ((h b).mpr List.mem_cons_self) with e' | e'
        · exact e'.symm
        · have x1 := hb'.1 a e
          have x2 := ha'.1 b e'
          have := lex_tr _ _ _ x1 x2
          rw [lex_irr] at this
          cases this
    subst e
    refine congrArg (a :: ·) (asc_uniq ha'.2 hb'.2 fun z => ⟨fun hz => ?_, fun hz => ?_⟩)
    · rcases List.mem_cons.mp ((h z).mp (List.mem_cons_of_mem _ hz)) with e | e
      · subst e
        have := ha'.1 z hz
        rw [lex_irr] at this
        cases this
      · exact e
    · rcases List.mem_cons.mp ((h z).mpr (List.mem_cons_of_mem _ hz)) with e | e
      · subst e
        have := hb'.1 z hz
        rw [lex_irr] at this
        cases this
      · exact e
/-- what sorted leaves of a set -/
theorem set_sorted {M ks : List (List Int)} (nd : M.Nodup) (od : M.Pairwise fun a b => lexB b a = false) (h : ∀ z, z ∈ M ↔ z ∈ ks) : M = sortS ks := by
  refine asc_uniq ((nd.and od).imp fun {a b} ⟨ne, le⟩ => ?_) (asc_sortS ks) fun z => (h z).trans mem_sortS.symm
  rcases lex_tri a b with t | t | t
  · exact t
  · exact absurd t ne
  · rw [le] at t; cases t
abbrev Wk_ (ks : List (List Int)) : Prop := ks.Pairwise fun a b => lexB b a = false
theorem perm_insL (k : List Int) : ∀ xs : List (List Int), (insL k xs).Perm (k :: xs)
  | [] => .refl _
  | x :: xs => by
    unfold insL
    split
    · exact ((perm_insL k xs).cons x).trans (.swap k x xs)
    · exact .refl _
theorem le_tr {a b c : List Int} (h1 : lexB b a = false) (h2 : lexB c b = false) : lexB c a = false := by
  cases q : lexB c a with
  | false => rfl
  | true =>
    rcases lex_tri a b with t | t | t
    · rw [lex_tr _ _ _ q t] at h2; cases h2
    · subst t; rw [q] at h2; cases h2
    · rw [t] at h1; cases h1
theorem lex_as {a b : List Int} (h : lexB a b = true) : lexB b a = false := by
  cases q : lexB b a with
  | false => rfl
  | true =>
    have := lex_tr _ _ _ h q
    rw [lex_irr] at this
    cases this
theorem wk_insL {k : List Int} : ∀ {xs : List (List Int)}, Wk_ xs → Wk_ (insL k xs)
  | [], _ => by unfold insL; exact List.pairwise_singleton ..
  | x :: xs, h => by
    have hx := List.pairwise_cons.mp h
    unfold insL
    split
    · rename_i c
      refine List.pairwise_cons.mpr ⟨fun z hz => ?_, wk_insL hx.2⟩
      rcases List.mem_cons.mp ((perm_insL k xs).mem_iff.mp hz) with rfl | hz
      · exact lex_as c
      · exact hx.1 z hz
    · rename_i c
      have c : lexB x k = false := by cases q : lexB x k with
        | false => rfl
        | true => exact absurd q c
      refine List.pairwise_cons.mpr ⟨fun z hz => ?_, h⟩
      rcases List.mem_cons.mp hz with rfl | hz
      · exact c
      · exact le_tr c (hx.1 z hz)
theorem perm_sortL : ∀ ks : List (List Int), (sortL ks).Perm ks
  | [] => .refl _
  | k :: ks => (perm_insL k (sortL ks)).trans ((perm_sortL ks).cons k)
theorem wk_sortL : ∀ ks : List (List Int), Wk_ (sortL ks)
  | [] => List.Pairwise.nil
  | _ :: ks => wk_insL (wk_sortL ks)
theorem wk_uniq : ∀ {as bs : List (List Int)}, Wk_ as → Wk_ bs → as.Perm bs → as = bs
  | [], [], _, _, _ => rfl
  | [], b :: bs, _, _, h => by have := h.length_eq; simp at this
  | a :: as, [], _, _, h => by have := h.length_eq; simp at this
  | a :: as, b :: bs, ha, hb, h => by
    have ha' := List.pairwise_cons.mp ha
    have hb' := List.pairwise_cons.mp hb
    have e : a = b := by
      rcases List.mem_cons.mp (h.mem_iff.mp List.mem_cons_self) with e | e
      · exact e
      · rcases List.mem_cons.mp (h.mem_iff.mpr List.mem_cons_self) with e' | e'
        · exact e'.symm
        · have x1 := hb'.1 a e
          have x2 := ha'.1 b e'
          rcases lex_tri a b with t | t | t
          · rw [t] at x1; cases x1
          · exact t
          · rw [t] at x2; cases x2
    subst e
    exact congrArg (a :: ·) (wk_uniq ha'.2 hb'.2 h.cons_inv)
end SO

namespace DN
open PySem PySem.Spec PyProof.Rows L2
def intD : D → Option Int
  | .int i => some i
  | _ => none
def intsD : List D → Option (List Int)
  | [] => some []
  | d :: ds => match intD d, intsD ds with
    | some i, some is => some (i :: is)
    | _, _ => none
def keyD : D → Option (List Int)
  | .tup ds => intsD ds
  | _ => none
def keysD : List D → Option (List (List Int))
  | [] => some []
  | d :: ds => match keyD d, keysD ds with
    | some k, some ks => some (k :: ks)
    | _, _ => none
def tupsI (ks : List (List Int)) : List D := ks.map fun k => D.tup (k.map D.int)
def evenK : List (List Int) → Bool
  | [] => true
  | k :: ks => decide (1 ≤ k.length) && ks.all fun j => decide (j.length = k.length)
theorem evenK_of {ks : List (List Int)} (h : evenK ks = true) : ∃ d, 1 ≤ d ∧ ∀ k ∈ ks, k.length = d := by
  cases ks with
  | nil => exact ⟨1, Nat.le_refl _, fun _ h => by cases h⟩
  | cons k ks =>
    unfold evenK at h
    rw [Bool.and_eq_true] at h
    refine ⟨k.length, of_decide_eq_true h.1, fun j hj => ?_⟩
    rcases List.mem_cons.mp hj with rfl | hj
    · rfl
    · exact of_decide_eq_true (List.all_eq_true.mp h.2 j hj)
def sortSD (ds : List D) : M D := match keysD ds with
  | some ks => if ks.length < 64 ∧ evenK ks = true then M.pure (.lst (tupsI (SO.sortS ks))) else M.bad
  | none => M.bad
def gSortS : D → M D
  | .lst ds => sortSD ds
  | .tup ds => sortSD ds
  | _ => M.bad
def gSort : List D → M D
  | [.lst ds] => match keysD ds with
    | some ks => if ks.length < 64 ∧ evenK ks = true then M.pure (.lst (tupsI (SO.sortL ks))) else M.bad
    | none => M.bad
  | _ => M.bad
section
variable {G : Gx} {W : Wd} {H : Hp}
theorem RpA.intsOf : ∀ {ds : List D} {vs : List V} {is : List Int}, RpA G W H vs ds → intsD ds = some is → vs = is.map V.int ∧ ds = is.map D.int
  | [], _, _, .nil, e => by simp [intsD] at e; subst e; exact ⟨rfl, rfl⟩
  | d :: ds, _, is, .cons r t, e => by
    unfold intsD at e
    cases d with
    | int i =>
      cases q : intsD ds with
      | none => rw [q] at e; cases e
      | some js =>
        rw [q] at e
        cases e
        cases r
        obtain ⟨a, b⟩ := RpA.intsOf t q
        exact ⟨by rw [a]; rfl, by rw [b]; rfl⟩
    | _ => cases e
theorem RpA.keysOf : ∀ {ds : List D} {vs : List V} {ks : List (List Int)}, RpA G W H vs ds → keysD ds = some ks → ∃ ps : List (Addr × List Int), vs = ps.map (fun p => V.ref p.1) ∧ ks = ps.map (·.2) ∧ ∀ p ∈ ps, TupAt G W H p.1 (p.2.map V.int)
  | [], _, _, .nil, e => by simp [keysD] at e; subst e; exact ⟨[], rfl, rfl, fun _ h => by cases h⟩
  | d :: ds, _, ks, .cons r t, e => by
    unfold keysD at e
    cases d with
    | tup xs =>
      have e : (match intsD xs, keysD ds with | some k, some ks => some (k :: ks) | _, _ => none) = some ks := e
      cases q1 : intsD xs with
      | none => rw [q1] at e; cases e
      | some is =>
        cases q : keysD ds with
        | none => rw [q1, q] at e; cases e
        | some js =>
          rw [q1, q] at e
          cases e
          obtain ⟨ps, a, b, c⟩ := RpA.keysOf t q
          cases r with
          | @tup p vs _ hp rp =>
            obtain ⟨x, y⟩ := rp.intsOf q1
            subst x
            refine ⟨(p, is) :: ps, by rw [a]; rfl, by rw [b]; rfl, fun z hz => ?_⟩
            rcases List.mem_cons.mp hz with rfl | hz
            · exact hp
            · exact c z hz
    | _ => cases e
theorem rp_ints : ∀ is : List Int, RpA G W H (is.map V.int) (is.map D.int)
  | [] => .nil
  | i :: is => .cons (.int i) (rp_ints is)
theorem rp_tups : ∀ {ps : List (Addr × List Int)}, (∀ p ∈ ps, TupAt G W H p.1 (p.2.map V.int)) → RpA G W H (ps.map fun p => V.ref p.1) (tupsI (ps.map (·.2)))
  | [], _ => .nil
  | p :: ps, h => .cons (.tup (h p List.mem_cons_self) (rp_ints _)) (rp_tups fun q hq => h q (List.mem_cons_of_mem _ hq))
end
theorem sq_same {K : PySem.W.Frag} {H H' : Hp} {a : Addr} {xs : List V} (h : SqT K H a xs) (s : Same H H') : SqT K H' a xs := by
  rcases h with h | h
  · rcases h with h | ⟨o, h⟩
    · exact .inl (.inl (s _ _ h))
    · exact .inl (.inr ⟨o, s _ _ h⟩)
  · exact .inr h
section
variable {X : Cx} {cl : Cls_} {E : WX} {e : Expr} {es : List Expr} {fe : Env → M D} {fs : Env → M (List D)} {p p2 p3 pos : Pos}
theorem de_sortSet (hc : X.calm = true) (hu : X.A.units + 64 < cLine) (m1 : X.mg "sorted" = none) (m2 : X.mg "set" = none) (he : DE X cl E e fe) (g1 : Gl X "sorted" := by rfl) (g2 : Gl X "set" := by rfl)
    (a1 : starEach [.Call (.Name "set" p2) [e] [] p3] X.env = (false, eval (.Call (.Name "set" p2) [e] [] p3) X.env) :: starEach [] X.env := by rfl) (b1 : (backTo pos (starEach ([] : List Expr) X.env)).any (·.1) = false := by rfl)
    (a2 : starEach [e] X.env = (false, eval e X.env) :: starEach [] X.env := by rfl) (b2 : (backTo p3 (starEach ([] : List Expr) X.env)).any (·.1) = false := by rfl) : DE X cl E (.Call (.Name "sorted" p) [.Call (.Name "set" p2) [e] [] p3] [] pos) (c1 gSortS fe) := by
  have inner := pe_callTy (x := "set") (p := p2) (pos := p3) (cr_setA hc hu) g2 m2 (by decide +kernel) (pa_cons he pa_nil a2) (by decide) (by decide) a2 b2
  refine pe_imp (pe_callB (cr_sortS hc) g1 m1 (by decide +kernel) (pa_cons inner pa_nil a1) (by decide) (by decide) a1 b1) fun σ H Q h => ?_
  refine tE_bind h fun W0 H0 W1 H1 S1 ρ own x dx ev rx h1 => ?_
  have main : ∀ (l : Addr) (vs : List V) (ds : List D), x = .ref l → (SqL X.K H1 l vs ∨ SqT X.K H1 l vs) → RpA ⟨X.K, cl⟩ W1 H1 vs ds → Po ⟨X.K, cl⟩ E σ W1 H1 (sortSD ds S1) (RV ⟨X.K, cl⟩ Q) →
      rSetA X.K X.prog X.w [x] H1 (fun y H2 => rSortS X.K X.prog X.w [y] H2 Q) := by
    intro l vs ds ex hl ra h1
    unfold sortSD at h1
    cases q : keysD ds with
    | none => rw [q] at h1; exact h1.elim
    | some ks =>
      rw [q] at h1
      obtain ⟨⟨few, ek⟩, h1⟩ := po_if h1
      obtain ⟨d, d1, dl⟩ := evenK_of ek
      obtain ⟨ps, rfl, rfl, hp⟩ := ra.keysOf q
      refine ⟨l, ps, by rw [ex], hl, fun z hz => (hp z hz).sq, by simpa using few, fun a L ha sub all => ?_⟩
      have sm : Same H1 (upd H1 a (SetTO X.prog X.w a L)) := Same.new ha
      refine ⟨a, L, d, rfl, upd_same, fun z hz => sq_same (hp z (sub z hz)).sq sm, d1, fun z hz => dl _ (List.mem_map.mpr ⟨z, sub z hz, rfl⟩), fun M p pm nd od fr => ?_⟩
      have w2 := ev.wk.same sm
      have s2 := ev.st.same sm
      have h2 := Po.step ev.wk (Le.same sm) h1
      have eM : M.map (·.2) = SO.sortS (ps.map (·.2)) := by
        refine SO.set_sorted nd (List.pairwise_map.mpr od) fun z => ⟨fun hz => ?_, fun hz => ?_⟩
        · obtain ⟨u, hu, rfl⟩ := List.mem_map.mp hz
          exact List.mem_map.mpr ⟨u, sub u (pm.mem_iff.mp hu), rfl⟩
        · obtain ⟨u, hu, rfl⟩ := List.mem_map.mp hz
          exact (pm.map (·.2)).mem_iff.mpr (all u hu)
      rw [← eM] at h2
      refine Po.new w2 s2 h2 fr (Rp.newLst w2 fr (rp_tups fun z hz => ?_))
      have := hp z (sub z (pm.mem_iff.mp hz))
      rcases this with ⟨r, nb⟩ | r
      · refine .inl ⟨?_, nb⟩
        rcases r with r | ⟨o, r⟩
        · exact .inl (sm _ _ r)
        · exact .inr ⟨o, sm _ _ r⟩
      · exact .inr r
  cases dx with
  | lst ds =>
    cases rx with
    | @lst l vs _ hl _ ra => exact main l vs ds rfl (.inl (.inl (.inl hl))) ra h1
  | tup ds =>
    cases rx with
    | @tup l vs _ hl ra => exact main l vs ds rfl (.inr hl.sq) ra h1
  | _ => exact h1.elim
theorem cd_sort {K : PySem.W.Frag} : CallD K cl (rSortL K) gSort := by
  intro E σ W H S vs ds Q w s r h
  unfold gSort at h
  match ds, r, h with
  | [.lst xs], .cons (.lst (a := l) (vs := us) hl _ ra) .nil, h =>
    dsimp only at h
    cases q : keysD xs with
    | none => rw [q] at h; exact h.elim
    | some ks =>
      rw [q] at h
      obtain ⟨⟨few, ek⟩, h1⟩ := po_if h
      obtain ⟨d, d1, dl⟩ := evenK_of ek
      obtain ⟨ps, rfl, rfl, hp⟩ := ra.keysOf q
      refine ⟨l, ps, d, rfl, .inl (.inl hl), fun z hz => (hp z hz).sq, by simpa using few, d1, fun z hz => dl _ (List.mem_map.mpr ⟨z, hz, rfl⟩), fun M p sub pm od fr => ?_⟩
      have eM : M.map (·.2) = SO.sortL (ps.map (·.2)) := SO.wk_uniq (List.pairwise_map.mpr od) (SO.wk_sortL _) (pm.trans (SO.perm_sortL _).symm)
      rw [← eM] at h1
      exact Po.new w s h1 fr (Rp.newLst w fr (rp_tups fun z hz => hp z (sub z hz)))
end
end DN
/-! KB: bags with ANY entries, in plain Lean. -/
namespace KB
open PySem PySem.Spec PyProof.Rows L2 DN
def bagD (xs : List Int) : D := .tup (xs.map D.int)
def Wide (xs : List Int) : Prop := 0 < xs.length ∧ xs.length ≤ 5 ∧ ∀ x ∈ xs, -1 ≤ x
def leW (a b : Int) : Bool := decide (b = -1) || (!decide (a = -1) && decide (a ≤ b))
def addW (a b : Int) : Int := if a = -1 ∨ b = -1 then -1 else a + b
def within (xs ys : List Int) : Bool := (xs.zip ys).all fun p => leW p.1 p.2
def sumW (xs ys : List Int) : List Int := (xs.zip ys).map fun p => addW p.1 p.2
def isInt : D → Bool
  | .int _ => true
  | _ => false
def isCount (k : Int) : D → Bool
  | .int i => decide (k ≤ i)
  | _ => false
def isBagOf (k : Int) : D → Bool
  | .tup xs => decide (0 < xs.length) && decide (xs.length ≤ 5) && xs.all (isCount k)
  | _ => false
def Ty2 (d : D) : Prop := Ty d ∧ ∀ xs, d = .tup xs → xs.length ≤ 100 ∧ ∀ x ∈ xs, Ty x
theorem zipD_ints : ∀ xs ys : List Int, zipD (xs.map D.int) (ys.map D.int) = (xs.zip ys).map fun p => D.tup [.int p.1, .int p.2]
  | [], _ => by cases ‹List Int› <;> rfl
  | _ :: _, [] => rfl
  | x :: xs, y :: ys => by simp only [List.map_cons, zipD, List.zip_cons_cons, zipD_ints xs ys]
theorem leW_refl (a : Int) : leW a a = true := by
  unfold leW
  by_cases h : a = -1 <;> simp [h]
theorem leW_trans {a b c : Int} (h1 : leW a b = true) (h2 : leW b c = true) : leW a c = true := by
  unfold leW at *
  simp only [Bool.or_eq_true, Bool.and_eq_true, Bool.not_eq_true', decide_eq_true_eq, decide_eq_false_iff_not] at *
  omega
theorem leW_add {a b : Int} (hb : -1 ≤ b) : leW a (addW a b) = true := by
  unfold leW addW
  simp only [Bool.or_eq_true, Bool.and_eq_true, Bool.not_eq_true', decide_eq_true_eq, decide_eq_false_iff_not]
  split <;> omega
theorem addW_comm (a b : Int) : addW a b = addW b a := by
  unfold addW
  split <;> split <;> omega
theorem addW_wide {a b : Int} (ha : -1 ≤ a) (hb : -1 ≤ b) : -1 ≤ addW a b := by
  unfold addW
  split <;> omega
theorem addW_assoc {a b c : Int} (ha : -1 ≤ a) (hb : -1 ≤ b) (hc : -1 ≤ c) : addW (addW a b) c = addW a (addW b c) := by
  unfold addW
  by_cases h1 : a = -1 <;> by_cases h2 : b = -1 <;> by_cases h3 : c = -1 <;> simp [h1, h2, h3] <;> (try omega)
/-! by places -/
theorem within_iff {xs ys : List Int} (hl : xs.length = ys.length) : within xs ys = true ↔ ∀ i (h : i < xs.length), leW xs[i] (ys[i]'(hl ▸ h)) = true := by
  unfold within
  rw [List.all_eq_true]
  constructor
  · intro h i hi
    exact h (xs[i], ys[i]) (by
      have : (xs.zip ys)[i]'(by rw [List.length_zip]; omega) = (xs[i], ys[i]) := List.getElem_zip
      rw [← this]
      exact List.getElem_mem _)
  · intro h p hp
    obtain ⟨i, hi, e⟩ := List.mem_iff_getElem.mp hp
    have hi' : i < xs.length := by rw [List.length_zip] at hi; omega
    have := h i hi'
    have e2 : (xs.zip ys)[i] = (xs[i], ys[i]) := List.getElem_zip
    rw [← e, e2]
    exact this
theorem within_refl (xs : List Int) : within xs xs = true := (within_iff rfl).mpr fun i h => leW_refl _
theorem within_trans {xs ys zs : List Int} (h1 : xs.length = ys.length) (h2 : ys.length = zs.length) (a : within xs ys = true) (b : within ys zs = true) : within xs zs = true :=
  (within_iff (h1.trans h2)).mpr fun i h => leW_trans ((within_iff h1).mp a i h) ((within_iff h2).mp b i (h1 ▸ h))
theorem sumW_length {xs ys : List Int} (h : xs.length = ys.length) : (sumW xs ys).length = xs.length := by
  unfold sumW
  rw [List.length_map, List.length_zip]
  omega
theorem sumW_get {xs ys : List Int} (h : xs.length = ys.length) (i : Nat) (hi : i < xs.length) : (sumW xs ys)[i]'(by rw [sumW_length h]; exact hi) = addW xs[i] (ys[i]'(h ▸ hi)) := by
  unfold sumW
  rw [List.getElem_map, List.getElem_zip]
theorem sumW_wide {xs ys : List Int} (h : xs.length = ys.length) (a : Wide xs) (b : Wide ys) : Wide (sumW xs ys) := by
  refine ⟨by rw [sumW_length h]; exact a.1, by rw [sumW_length h]; exact a.2.1, fun x hx => ?_⟩
  obtain ⟨i, hi, e⟩ := List.mem_iff_getElem.mp hx
  have hi' : i < xs.length := by rw [sumW_length h] at hi; exact hi
  rw [← e, sumW_get h i hi']
  exact addW_wide (a.2.2 _ (List.getElem_mem _)) (b.2.2 _ (List.getElem_mem _))
theorem sumW_comm {xs ys : List Int} (h : xs.length = ys.length) : sumW xs ys = sumW ys xs := by
  refine List.ext_getElem (by rw [sumW_length h, sumW_length h.symm]; exact h) fun i h1 h2 => ?_
  have hi : i < xs.length := by rw [sumW_length h] at h1; exact h1
  rw [sumW_get h i hi, sumW_get h.symm i (h ▸ hi), addW_comm]
theorem sumW_assoc {xs ys zs : List Int} (h : xs.length = ys.length) (h' : ys.length = zs.length) (a : Wide xs) (b : Wide ys) (c : Wide zs) : sumW (sumW xs ys) zs = sumW xs (sumW ys zs) := by
  have g1 : (sumW xs ys).length = zs.length := by rw [sumW_length h]; omega
  have g2 : xs.length = (sumW ys zs).length := by rw [sumW_length h']; omega
  refine List.ext_getElem (by rw [sumW_length g1, sumW_length g2, sumW_length h]) fun i h1 h2 => ?_
  have hi : i < xs.length := by rw [sumW_length g2] at h2; exact h2
  rw [sumW_get g1 i (by rw [sumW_length h]; exact hi), sumW_get g2 i hi, sumW_get h i hi, sumW_get h' i (h ▸ hi)]
  exact addW_assoc (a.2.2 _ (List.getElem_mem _)) (b.2.2 _ (List.getElem_mem _)) (c.2.2 _ (List.getElem_mem _))
theorem within_sum {xs ys : List Int} (h : xs.length = ys.length) (b : Wide ys) : within xs (sumW xs ys) = true :=
  (within_iff (sumW_length h).symm).mpr fun i hi => by
    rw [sumW_get h i hi]
    exact leW_add (b.2.2 _ (List.getElem_mem _))
/-! comparison of bags -/
theorem toPs_ints : ∀ xs : List Int, toPs (xs.map D.int) = some (xs.map PyData.int)
  | [] => by unfold toPs; rfl
  | x :: xs => by unfold List.map toPs; rw [toPs_ints xs]; unfold toP; rfl
theorem toP_bag (xs : List Int) : toP (bagD xs) = some (.tuple (xs.map PyData.int)) := by unfold bagD toP; rw [toPs_ints]; rfl
theorem lay_ints : ∀ xs : List Int, PyData.canLayAll0 (xs.map PyData.int) = true ∧ PyData.depthAll (xs.map PyData.int) = 0
  | [] => ⟨rfl, rfl⟩
  | x :: xs => by
    obtain ⟨a, b⟩ := lay_ints xs
    constructor
    · unfold List.map PyData.canLayAll0 PyData.canLay0; rw [a]; rfl
    · unfold List.map PyData.depthAll PyData.depth; rw [b]; rfl
theorem sh_bag (xs : List Int) : SeqAt.shaped (.tuple (xs.map PyData.int)) = true := by
  unfold SeqAt.shaped PyData.canLay0 PyData.depth
  rw [(lay_ints xs).1, (lay_ints xs).2]
  rfl
theorem eqv_ints : ∀ xs ys : List Int, PyData.eqvAll (xs.map PyData.int) (ys.map PyData.int) = decide (xs = ys)
  | [], [] => rfl
  | [], _ :: _ => rfl
  | _ :: _, [] => rfl
  | x :: xs, y :: ys => by
    unfold List.map PyData.eqvAll PyData.eqv
    rw [eqv_ints xs ys]
    by_cases h : x = y <;> by_cases h2 : xs = ys <;> simp [h, h2]
theorem eqD_bag (xs ys : List Int) : eqD (bagD xs) (bagD ys) = some (decide (xs = ys)) := by
  unfold eqD
  rw [toP_bag, toP_bag]
  dsimp only
  rw [if_pos ⟨sh_bag xs, sh_bag ys⟩]
  show some (PyData.eqvAll _ _) = _
  rw [eqv_ints]
/-! the bags that stand for a wide one -/
def topW (xs : List Int) : List Int := xs.map fun x => if x = -1 then 10 ^ 39 else x
theorem topW_len (xs : List Int) : (topW xs).length = xs.length := List.length_map _
theorem topW_get (xs : List Int) (i : Nat) (h : i < (topW xs).length) (h' : i < xs.length) : (topW xs)[i] = if xs[i] = -1 then 10 ^ 39 else xs[i] := List.getElem_map _
theorem topW_within (xs : List Int) (h : ∀ x ∈ xs, -1 ≤ x) : within (topW xs) xs = true := by
  have hl : (topW xs).length = xs.length := List.length_map _
  refine (within_iff hl).mpr fun i hi => ?_
  rw [topW_get xs i hi (hl ▸ hi)]
  unfold leW
  simp only [Bool.or_eq_true, Bool.and_eq_true, Bool.not_eq_true', decide_eq_true_eq, decide_eq_false_iff_not]
  split <;> omega
theorem topW_gap {xs ys : List Int} (hl : xs.length = ys.length) (hx : ∀ x ∈ xs, -1 ≤ x) (hy : ∀ y ∈ ys, y ≤ 10 ^ 38) (h : within (topW xs) ys = true) : within xs ys = true := by
  have ht : (topW xs).length = xs.length := List.length_map _
  refine (within_iff hl).mpr fun i hi => ?_
  have := (within_iff (ht.trans hl)).mp h i (by omega)
  rw [topW_get xs i (by omega) hi] at this
  have b := hy _ (List.getElem_mem (hl ▸ hi))
  have p : (10 : Int) ^ 38 < 10 ^ 39 := by decide
  revert this
  unfold leW
  simp only [Bool.or_eq_true, Bool.and_eq_true, Bool.not_eq_true', decide_eq_true_eq, decide_eq_false_iff_not]
  generalize (10 : Int) ^ 38 = q at *
  generalize (10 : Int) ^ 39 = r at *
  split <;> omega
/-- a place turned -/
theorem set_within {xs : List Int} {k : Nat} {v : Int} (hx : ∀ x ∈ xs, -1 ≤ x) (hk : k < xs.length) (hv : 0 ≤ v) (hw : xs[k] = -1 ∨ v ≤ xs[k]) : within ((topW xs).set k v) xs = true := by
  have ht : ((topW xs).set k v).length = xs.length := by rw [List.length_set]; exact List.length_map _
  refine (within_iff ht).mpr fun i hi => ?_
  rw [List.getElem_set]
  have hi' : i < xs.length := by omega
  by_cases e : k = i
  · subst e
    rw [if_pos rfl]
    unfold leW
    simp only [Bool.or_eq_true, Bool.and_eq_true, Bool.not_eq_true', decide_eq_true_eq, decide_eq_false_iff_not]
    omega
  · rw [if_neg e]
    have tl : (topW xs).length = xs.length := List.length_map _
    exact (within_iff tl).mp (topW_within xs hx) i (by omega)
end KB
/-! KD: greatest and least bags, in plain Lean. -/
namespace KB
open PySem PySem.Spec PyProof.Rows L2 DN SO
theorem leW_as {a b : Int} (h1 : leW a b = true) (h2 : leW b a = true) : a = b := by
  unfold leW at *
  simp only [Bool.or_eq_true, Bool.and_eq_true, Bool.not_eq_true', decide_eq_true_eq, decide_eq_false_iff_not] at *
  omega
theorem within_as {xs ys : List Int} (hl : xs.length = ys.length) (h1 : within xs ys = true) (h2 : within ys xs = true) : xs = ys :=
  List.ext_getElem hl fun i a b => leW_as ((within_iff hl).mp h1 i a) ((within_iff hl.symm).mp h2 i b)
/-- none other stands above / below -/
def topB (L : List (List Int)) (x : List Int) : Bool := !L.any fun y => !decide (x = y) && within x y
def lowB (L : List (List Int)) (x : List Int) : Bool := !L.any fun y => !decide (x = y) && within y x
def topG (L : List (List Int)) : List (List Int) := (sortS L).filter (topB (sortS L))
def lowG (L : List (List Int)) : List (List Int) := (sortS L).filter (lowB (sortS L))
theorem topB_iff {L : List (List Int)} {x : List Int} : topB L x = true ↔ ∀ y ∈ L, within x y = true → x = y := by
  unfold topB
  rw [Bool.not_eq_true', List.any_eq_false]
  constructor
  · intro h y hy hw
    have := h y hy
    simp only [Bool.and_eq_true, Bool.not_eq_true', decide_eq_false_iff_not, not_and] at this
    exact Classical.byContradiction fun ne => this ne hw
  · intro h y hy
    simp only [Bool.and_eq_true, Bool.not_eq_true', decide_eq_false_iff_not, not_and]
    exact fun ne hw => ne (h y hy hw)
theorem lowB_iff {L : List (List Int)} {x : List Int} : lowB L x = true ↔ ∀ y ∈ L, within y x = true → x = y := by
  unfold lowB
  rw [Bool.not_eq_true', List.any_eq_false]
  constructor
  · intro h y hy hw
    have := h y hy
    simp only [Bool.and_eq_true, Bool.not_eq_true', decide_eq_false_iff_not, not_and] at this
    exact Classical.byContradiction fun ne => this ne hw
  · intro h y hy
    simp only [Bool.and_eq_true, Bool.not_eq_true', decide_eq_false_iff_not, not_and]
    exact fun ne hw => ne (h y hy hw)
theorem mem_topG {L : List (List Int)} {x : List Int} : x ∈ topG L ↔ x ∈ L ∧ ∀ y ∈ L, within x y = true → x = y := by
  unfold topG
  rw [List.mem_filter, topB_iff, mem_sortS]
  exact ⟨fun ⟨a, b⟩ => ⟨a, fun y hy => b y (mem_sortS.mpr hy)⟩, fun ⟨a, b⟩ => ⟨a, fun y hy => b y (mem_sortS.mp hy)⟩⟩
theorem mem_lowG {L : List (List Int)} {x : List Int} : x ∈ lowG L ↔ x ∈ L ∧ ∀ y ∈ L, within y x = true → x = y := by
  unfold lowG
  rw [List.mem_filter, lowB_iff, mem_sortS]
  exact ⟨fun ⟨a, b⟩ => ⟨a, fun y hy => b y (mem_sortS.mpr hy)⟩, fun ⟨a, b⟩ => ⟨a, fun y hy => b y (mem_sortS.mp hy)⟩⟩
theorem asc_topG (L : List (List Int)) : Asc (topG L) := (asc_sortS L).filter _
theorem asc_lowG (L : List (List Int)) : Asc (lowG L) := (asc_sortS L).filter _
theorem sortS_asc {L : List (List Int)} (h : Asc L) : sortS L = L := asc_uniq (asc_sortS L) h fun _ => mem_sortS
theorem topG_ext {L M : List (List Int)} (h : ∀ z, z ∈ L ↔ z ∈ M) : topG L = topG M :=
  asc_uniq (asc_topG L) (asc_topG M) fun z => by rw [mem_topG, mem_topG, h]; exact ⟨fun ⟨a, b⟩ => ⟨a, fun y hy => b y ((h y).mpr hy)⟩, fun ⟨a, b⟩ => ⟨a, fun y hy => b y ((h y).mp hy)⟩⟩
theorem topG_idem (L : List (List Int)) : topG (topG L) = topG L :=
  asc_uniq (asc_topG _) (asc_topG _) fun z => by
    rw [mem_topG]
    exact ⟨fun h => h.1, fun h => ⟨h, fun y hy => (mem_topG.mp h).2 y (mem_topG.mp hy).1⟩⟩
theorem lowG_idem (L : List (List Int)) : lowG (lowG L) = lowG L :=
  asc_uniq (asc_lowG _) (asc_lowG _) fun z => by
    rw [mem_lowG]
    exact ⟨fun h => h.1, fun h => ⟨h, fun y hy => (mem_lowG.mp h).2 y (mem_lowG.mp hy).1⟩⟩
theorem above {L : List (List Int)} {n : Nat} (hl : ∀ x ∈ L, x.length = n) : ∀ (m : Nat) (x : List Int), x ∈ L → L.countP (fun y => !decide (x = y) && within x y) ≤ m → ∃ y ∈ topG L, within x y = true
  | m, x, hx, hm => by
    by_cases h : ∀ y ∈ L, within x y = true → x = y
    · exact ⟨x, mem_topG.mpr ⟨hx, h⟩, within_refl x⟩
    · obtain ⟨y, hy⟩ := Classical.not_forall.mp h
      obtain ⟨my, hy⟩ := Classical.not_imp.mp hy
      obtain ⟨hw, ne⟩ := Classical.not_imp.mp hy
      have lt : L.countP (fun z => !decide (y = z) && within y z) < L.countP (fun z => !decide (x = z) && within x z) := by
        refine countP_lt (fun z hz q => ?_) ⟨y, my, ?_, ?_⟩
        · rw [Bool.and_eq_true] at q ⊢
          have wz := within_trans ((hl x hx).trans (hl y my).symm) ((hl y my).trans (hl z hz).symm) hw q.2
          refine ⟨?_, wz⟩
          rw [Bool.not_eq_true', decide_eq_false_iff_not]
          intro e
          subst e
          exact ne (within_as ((hl x hx).trans (hl y my).symm) hw q.2)
        · rw [decide_eq_true rfl]; rfl
        · rw [Bool.and_eq_true, Bool.not_eq_true', decide_eq_false_iff_not]
          exact ⟨ne, hw⟩
      cases m with
      | zero => omega
      | succ m =>
        obtain ⟨t, ht, wt⟩ := above hl m y my (by omega)
        exact ⟨t, ht, within_trans ((hl x hx).trans (hl y my).symm) ((hl y my).trans (hl t (mem_topG.mp ht).1).symm) hw wt⟩
theorem below {L : List (List Int)} {n : Nat} (hl : ∀ x ∈ L, x.length = n) : ∀ (m : Nat) (x : List Int), x ∈ L → L.countP (fun y => !decide (x = y) && within y x) ≤ m → ∃ y ∈ lowG L, within y x = true
  | m, x, hx, hm => by
    by_cases h : ∀ y ∈ L, within y x = true → x = y
    · exact ⟨x, mem_lowG.mpr ⟨hx, h⟩, within_refl x⟩
    · obtain ⟨y, hy⟩ := Classical.not_forall.mp h
      obtain ⟨my, hy⟩ := Classical.not_imp.mp hy
      obtain ⟨hw, ne⟩ := Classical.not_imp.mp hy
      have lt : L.countP (fun z => !decide (y = z) && within z y) < L.countP (fun z => !decide (x = z) && within z x) := by
        refine countP_lt (fun z hz q => ?_) ⟨y, my, ?_, ?_⟩
        · rw [Bool.and_eq_true] at q ⊢
          have wz := within_trans ((hl z hz).trans (hl y my).symm) ((hl y my).trans (hl x hx).symm) q.2 hw
          refine ⟨?_, wz⟩
          rw [Bool.not_eq_true', decide_eq_false_iff_not]
          intro e
          subst e
          exact ne (within_as ((hl x hx).trans (hl y my).symm) q.2 hw)
        · rw [decide_eq_true rfl]; rfl
        · rw [Bool.and_eq_true, Bool.not_eq_true', decide_eq_false_iff_not]
          exact ⟨ne, hw⟩
      cases m with
      | zero => omega
      | succ m =>
        obtain ⟨t, ht, wt⟩ := below hl m y my (by omega)
        exact ⟨t, ht, within_trans ((hl t (mem_lowG.mp ht).1).trans (hl y my).symm) ((hl y my).trans (hl x hx).symm) wt hw⟩
/-! moved by a bag without ANY -/
theorem addW_le {a b m : Int} (hm : 0 ≤ m) (ha : -1 ≤ a) (hb : -1 ≤ b) : leW (addW a m) (addW b m) = leW a b := by
  rw [Bool.eq_iff_iff]
  unfold leW addW
  simp only [Bool.or_eq_true, Bool.and_eq_true, Bool.not_eq_true', decide_eq_true_eq, decide_eq_false_iff_not]
  split <;> split <;> omega
theorem addW_inj {a b m : Int} (hm : 0 ≤ m) (ha : -1 ≤ a) (hb : -1 ≤ b) (h : addW a m = addW b m) : a = b := by
  unfold addW at h
  split at h <;> split at h <;> omega
theorem sum_within {xs ys ms : List Int} (h1 : xs.length = ys.length) (h2 : ys.length = ms.length) (hx : ∀ x ∈ xs, -1 ≤ x) (hy : ∀ y ∈ ys, -1 ≤ y) (hm : ∀ m ∈ ms, 0 ≤ m) : within (sumW xs ms) (sumW ys ms) = within xs ys := by
  have l1 := sumW_length (h1.trans h2)
  have l2 := sumW_length h2
  have l12 : (sumW xs ms).length = (sumW ys ms).length := by omega
  rw [Bool.eq_iff_iff, within_iff l12, within_iff h1]
  constructor
  · intro h i hi
    have := h i (by omega)
    rw [sumW_get (h1.trans h2) i hi, sumW_get h2 i (h1 ▸ hi), addW_le (hm _ (List.getElem_mem _)) (hx _ (List.getElem_mem _)) (hy _ (List.getElem_mem _))] at this
    exact this
  · intro h i hi
    have hi' : i < xs.length := by omega
    rw [sumW_get (h1.trans h2) i hi', sumW_get h2 i (h1 ▸ hi'), addW_le (hm _ (List.getElem_mem _)) (hx _ (List.getElem_mem _)) (hy _ (List.getElem_mem _))]
    exact h i hi'
theorem sum_inj {xs ys ms : List Int} (h1 : xs.length = ys.length) (h2 : ys.length = ms.length) (hx : ∀ x ∈ xs, -1 ≤ x) (hy : ∀ y ∈ ys, -1 ≤ y) (hm : ∀ m ∈ ms, 0 ≤ m) (h : sumW xs ms = sumW ys ms) : xs = ys :=
  List.ext_getElem h1 fun i a b => by
    have e := List.getElem_of_eq h (i := i) (by rw [sumW_length (h1.trans h2)]; exact a)
    rw [sumW_get (h1.trans h2) i a, sumW_get h2 i b] at e
    exact addW_inj (hm _ (List.getElem_mem _)) (hx _ (List.getElem_mem _)) (hy _ (List.getElem_mem _)) e
theorem topG_moved {L : List (List Int)} {ms : List Int} (hl : ∀ x ∈ L, x.length = ms.length) (hx : ∀ x ∈ L, ∀ e ∈ x, -1 ≤ e) (hm : ∀ m ∈ ms, 0 ≤ m) : topG (L.map fun x => sumW x ms) = sortL ((topG L).map fun x => sumW x ms) := by
  have inj : ∀ x ∈ L, ∀ y ∈ L, sumW x ms = sumW y ms → x = y := fun x a y b e => sum_inj ((hl x a).trans (hl y b).symm) (hl y b) (hx x a) (hx y b) hm e
  have wi : ∀ x ∈ L, ∀ y ∈ L, within (sumW x ms) (sumW y ms) = within x y := fun x a y b => sum_within ((hl x a).trans (hl y b).symm) (hl y b) (hx x a) (hx y b) hm
  have nd : (sortL ((topG L).map fun x => sumW x ms)).Nodup := by
    rw [(perm_sortL _).nodup_iff]
    refine List.pairwise_map.mpr ((asc_topG L).imp_of_mem fun {x y} a b lt e => ?_)
    have := inj x (mem_topG.mp a).1 y (mem_topG.mp b).1 e
    subst this
    rw [lex_irr] at lt
    cases lt
  have asc : Asc (sortL ((topG L).map fun x => sumW x ms)) := (nd.and (wk_sortL _)).imp fun {a b} ⟨ne, le⟩ => by
    rcases lex_tri a b with t | t | t
    · exact t
    · exact absurd t ne
    · rw [le] at t; cases t
  refine asc_uniq (asc_topG _) asc fun z => ?_
  · rw [(perm_sortL _).mem_iff, mem_topG]
    constructor
    · rintro ⟨h, g⟩
      obtain ⟨x, hx', rfl⟩ := List.mem_map.mp h
      refine List.mem_map.mpr ⟨x, mem_topG.mpr ⟨hx', fun y hy hw => ?_⟩, rfl⟩
      exact inj x hx' y hy (g _ (List.mem_map.mpr ⟨y, hy, rfl⟩) (by rw [wi x hx' y hy]; exact hw))
    · intro h
      obtain ⟨x, hx', rfl⟩ := List.mem_map.mp h
      obtain ⟨mx, gx⟩ := mem_topG.mp hx'
      refine ⟨List.mem_map.mpr ⟨x, mx, rfl⟩, fun y hy hw => ?_⟩
      obtain ⟨u, hu, rfl⟩ := List.mem_map.mp hy
      rw [wi x mx u hu] at hw
      rw [gx u hu hw]
/-! as data -/
theorem keys_tups : ∀ L : List (List Int), keysD (tupsI L) = some L
  | [] => rfl
  | k :: L => by
    have ik : ∀ k : List Int, intsD (k.map D.int) = some k := by
      intro k
      induction k with
      | nil => rfl
      | cons i k ih => unfold List.map intsD; rw [ih]; rfl
    have e : keyD (.tup (k.map D.int)) = some k := ik k
    unfold tupsI List.map keysD
    rw [e]
    have := keys_tups L
    unfold tupsI at this
    rw [this]
theorem even_of {L : List (List Int)} {n : Nat} (h0 : 1 ≤ n) (h : ∀ x ∈ L, x.length = n) : evenK L = true := by
  cases L with
  | nil => rfl
  | cons k L =>
    unfold evenK
    rw [Bool.and_eq_true, List.all_eq_true]
    have hk := h k List.mem_cons_self
    exact ⟨decide_eq_true (by omega), fun j hj => decide_eq_true (by rw [hk]; exact h j (List.mem_cons_of_mem _ hj))⟩
theorem toPs_tups : ∀ L : List (List Int), toPs (tupsI L) = some (L.map fun k => PyData.tuple (k.map PyData.int))
  | [] => by unfold tupsI List.map toPs; rfl
  | k :: L => by
    have := toPs_tups L
    unfold tupsI at this ⊢
    have e := toP_bag k
    unfold bagD at e
    unfold List.map toPs
    rw [e, this]
theorem lay_tups : ∀ L : List (List Int), PyData.canLayAll0 (L.map fun k => PyData.tuple (k.map PyData.int)) = true ∧ PyData.depthAll (L.map fun k => PyData.tuple (k.map PyData.int)) ≤ 1
  | [] => ⟨rfl, Nat.zero_le _⟩
  | k :: L => by
    obtain ⟨a, b⟩ := lay_tups L
    constructor
    · unfold List.map PyData.canLayAll0 PyData.canLay0; rw [(lay_ints k).1, a]; rfl
    · unfold List.map PyData.depthAll PyData.depth; rw [(lay_ints k).2]; exact Nat.max_le.mpr ⟨Nat.le_refl _, b⟩
theorem eqv_tups : ∀ A B : List (List Int), PyData.eqvAll (A.map fun k => PyData.tuple (k.map PyData.int)) (B.map fun k => PyData.tuple (k.map PyData.int)) = decide (A = B)
  | [], [] => rfl
  | [], _ :: _ => rfl
  | _ :: _, [] => rfl
  | x :: xs, y :: ys => by
    unfold List.map PyData.eqvAll PyData.eqv
    rw [eqv_tups xs ys, eqv_ints]
    by_cases h : x = y <;> by_cases h2 : xs = ys <;> simp [h, h2]
theorem sh_tups (L : List (List Int)) : SeqAt.shaped (.list (L.map fun k => PyData.tuple (k.map PyData.int))) = true ∧ SeqAt.shaped (.tuple (L.map fun k => PyData.tuple (k.map PyData.int))) = true := by
  obtain ⟨a, b⟩ := lay_tups L
  constructor <;>
  · unfold SeqAt.shaped PyData.canLay0 PyData.depth
    rw [a, Bool.true_and]
    exact decide_eq_true (by omega)
theorem eqD_lst (A B : List (List Int)) : eqD (.lst (tupsI A)) (.lst (tupsI B)) = some (decide (A = B)) := by
  have e : ∀ L, toP (.lst (tupsI L)) = some (.list (L.map fun k => PyData.tuple (k.map PyData.int))) := fun L => by unfold toP; rw [toPs_tups]; rfl
  unfold eqD
  rw [e, e]
  dsimp only
  rw [if_pos ⟨(sh_tups A).1, (sh_tups B).1⟩]
  show some (PyData.eqvAll _ _) = _
  rw [eqv_tups]
theorem eqD_tup (A B : List (List Int)) : eqD (.tup (tupsI A)) (.tup (tupsI B)) = some (decide (A = B)) := by
  have e : ∀ L, toP (.tup (tupsI L)) = some (.tuple (L.map fun k => PyData.tuple (k.map PyData.int))) := fun L => by unfold toP; rw [toPs_tups]; rfl
  unfold eqD
  rw [e, e]
  dsimp only
  rw [if_pos ⟨(sh_tups A).2, (sh_tups B).2⟩]
  show some (PyData.eqvAll _ _) = _
  rw [eqv_tups]
theorem inD_tup (x : List Int) (L : List (List Int)) : inD (bagD x) (.tup (tupsI L)) = some (decide (x ∈ L)) := by
  show inP (bagD x) (tupsI L) = _
  unfold inP
  rw [toP_bag, toPs_tups]
  dsimp only
  rw [if_pos ⟨sh_bag x, (sh_tups L).1, (sh_tups L).2⟩, List.any_map]
  refine congrArg some ?_
  rw [Bool.eq_iff_iff, List.any_eq_true, decide_eq_true_eq]
  constructor
  · rintro ⟨y, hy, h⟩
    have h : PyData.eqvAll (y.map PyData.int) (x.map PyData.int) = true := h
    rw [eqv_ints] at h
    rw [← of_decide_eq_true h]
    exact hy
  · intro h
    refine ⟨x, h, ?_⟩
    show PyData.eqvAll (x.map PyData.int) (x.map PyData.int) = true
    rw [eqv_ints]
    exact decide_eq_true rfl
end KB
namespace K03
open PySem PySem.Spec PyProof.Rows L2 DN
abbrev pw : PySem.Program := PySem.Challenge.pw_postedbag_k03_whole_greatest_and_least
def top (i : Nat) : Stmt := pw.main.body.getD i (.Pass ⟨0, 0, 0, 0⟩)
structure Txt (mg : Str → Option Value) (tk_ANY tk_MAX_ENTRIES : Tok) : Prop where
  b_abs : mg "abs" = none
  b_all : mg "all" = none
  b_any : mg "any" = none
  b_bool : mg "bool" = none
  b_int : mg "int" = none
  b_isinstance : mg "isinstance" = none
  b_len : mg "len" = none
  b_list : mg "list" = none
  b_max : mg "max" = none
  b_min : mg "min" = none
  b_range : mg "range" = none
  b_set : mg "set" = none
  b_sorted : mg "sorted" = none
  b_tuple : mg "tuple" = none
  b_zip : mg "zip" = none
  g_ANY : mg "ANY" = some (.int (-1) tk_ANY)
  g_MAX_ENTRIES : mg "MAX_ENTRIES" = some (.int (5) tk_MAX_ENTRIES)
abbrev s_is_integer : Stmt := top 1
abbrev N_is_integer : List Str := ["value"]
theorem sc_is_integer : FnScope N_is_integer ["value"] (defScope s_is_integer) := ⟨rfl, rfl, rfl, by decide +kernel, rfl, by decide +kernel, by decide +kernel⟩
def b_is_integer : Sm := cRet (cAndV (c1 (gIsi "int") (cVar 0)) (c1 gNot (c1 (gIsi "bool") (cVar 0))))
def F_is_integer : List D → M D := runF 1 1 b_is_integer
theorem ok_is_integer {P : Program} {w : World} {K : PySem.W.Frag} {mg : Str → Option Value} {base : Heap} {cl : Cls_} {tk_ANY tk_MAX_ENTRIES : Tok} (T : Txt mg tk_ANY tk_MAX_ENTRIES) (fd : Fd K mg "is_integer" "is_integer" s_is_integer ["value"]) : Cal P w K mg base cl "is_integer" 1 ["value"] F_is_integer := by
  refine fd.cal sc_is_integer fun f cdv A outer s H E hr => ?_
  have nd := sc_is_integer.nd
  have tk : Takes (cxD P w K mg base N_is_integer "is_integer" s_is_integer f cdv A outer s H E) (fun c d _ H => E c d H) := takes_of rfl rfl rfl rfl
  exact (dss_one (ds_ret (de_and (de_isi (T := "int") (by decide) T.b_isinstance T.b_int (de_var 0)) (de_one (de_not (de_isi (T := "bool") (by decide) T.b_isinstance T.b_bool (de_var 0)))))))
abbrev s_is_count : Stmt := top 2
abbrev N_is_count : List Str := ["value", "least"]
theorem sc_is_count : FnScope N_is_count ["value", "least"] (defScope s_is_count) := ⟨rfl, rfl, rfl, by decide +kernel, rfl, by decide +kernel, by decide +kernel⟩
def b_is_count : Sm := cRet (cAndV (cCall 1 F_is_integer (cCons (cVar 0) (cNil))) (c2 gGe (cVar 0) (cVar 1)))
def F_is_count : List D → M D := runF 2 2 b_is_count
theorem ok_is_count {P : Program} {w : World} {K : PySem.W.Frag} {mg : Str → Option Value} {base : Heap} {cl : Cls_} {tk_ANY tk_MAX_ENTRIES : Tok} (T : Txt mg tk_ANY tk_MAX_ENTRIES) (fd : Fd K mg "is_count" "is_count" s_is_count ["value", "least"]) (C_is_integer : Cal P w K mg base cl "is_integer" 1 ["value"] F_is_integer) : Cal P w K mg base cl "is_count" 2 ["value", "least"] F_is_count := by
  refine fd.cal sc_is_count fun f cdv A outer s H E hr => ?_
  have nd := sc_is_count.nd
  have tk : Takes (cxD P w K mg base N_is_count "is_count" s_is_count f cdv A outer s H E) (fun c d _ H => E c d H) := takes_of rfl rfl rfl rfl
  exact (dss_one (ds_ret (de_and (de_cal C_is_integer (hr.mono (by decide)) tk (da_cons (de_var 0) da_nil)) (de_one (de_cmp op_ge od_ge (de_var 0) (de_var 1) (nomark _))))))
abbrev s_is_wide : Stmt := top 9
abbrev N_is_wide : List Str := ["value", "entry"]
theorem sc_is_wide : FnScope N_is_wide ["value"] (defScope s_is_wide) := ⟨rfl, rfl, rfl, by decide +kernel, rfl, by decide +kernel, by decide +kernel⟩
def b_is_wide : Sm := cSeq (cIfS (cOrB (cNotB (cB (c1 (gIsi "tuple") (cVar 0)))) (cNotB (cB (cChain gLt gLe (cC (.int 0)) (cA gLen (cCons (cVar 0) (cNil))) (cC (.int (5))))))) (cRet (cC (.bl false))) (cNext)) (cRet (cA gAll (cCons (cComp (cIt (cVar 0)) (bName 1) (cYes) (cCall 2 F_is_count (cCons (cVar 1) (cCons (cC (.int (-1))) (cNil)))) [1]) (cNil))))
def F_is_wide : List D → M D := runF 1 2 b_is_wide
theorem ok_is_wide {P : Program} {w : World} {K : PySem.W.Frag} {mg : Str → Option Value} {base : Heap} {cl : Cls_} {tk_ANY tk_MAX_ENTRIES : Tok} (T : Txt mg tk_ANY tk_MAX_ENTRIES) (fd : Fd K mg "is_wide" "is_wide" s_is_wide ["value"]) (C_is_count : Cal P w K mg base cl "is_count" 2 ["value", "least"] F_is_count) : Cal P w K mg base cl "is_wide" 3 ["value"] F_is_wide := by
  refine fd.cal sc_is_wide fun f cdv A outer s H E hr => ?_
  have nd := sc_is_wide.nd
  have tk : Takes (cxD P w K mg base N_is_wide "is_wide" s_is_wide f cdv A outer s H E) (fun c d _ H => E c d H) := takes_of rfl rfl rfl rfl
  exact (dss_cons (ds_if (dw_t (dw_or (dt_not (dt_val (de_isi (T := "tuple") (by decide) T.b_isinstance T.b_tuple (de_var 0)))) (dw_or1 (dt_not (dt_chain op_ltA op_leA od_lt od_le de_int (de_callB call_len cd_len T.b_len (da_cons (de_var 0) da_nil)) (de_gint T.g_MAX_ENTRIES)))))) (dss_one (ds_ret de_bl)) dss_nil) (dss_one (ds_ret (de_callB (cr_all rfl) cd_all T.b_all (da_cons (de_lc [("entry", 1)] rfl nd (di_seq (de_var 0)) (blkOk_by (own := [("entry", 1)]) (N := N_is_wide) (sc := defScope s_is_wide) (by decide +kernel)) (fun _ _ _ _ _ => (dg_name (i := 1) nd)) (fun _ _ _ _ _ => by exact dts_nil) (fun _ _ _ _ _ => by exact (de_cal C_is_count (hr.mono (by decide)) takes0 (da_cons (de_var 1) (da_cons (de_gint T.g_ANY) da_nil))))) da_nil)))))
abbrev s_is_entry_within : Stmt := top 10
abbrev N_is_entry_within : List Str := ["one", "other"]
theorem sc_is_entry_within : FnScope N_is_entry_within ["one", "other"] (defScope s_is_entry_within) := ⟨rfl, rfl, rfl, by decide +kernel, rfl, by decide +kernel, by decide +kernel⟩
def b_is_entry_within : Sm := cRet (cOrV (c2 gEqX (cVar 1) (cC (.int (-1)))) (cAndV (c2 gNe (cVar 0) (cC (.int (-1)))) (c2 gLe (cVar 0) (cVar 1))))
def F_is_entry_within : List D → M D := runF 2 2 b_is_entry_within
theorem ok_is_entry_within {P : Program} {w : World} {K : PySem.W.Frag} {mg : Str → Option Value} {base : Heap} {cl : Cls_} {tk_ANY tk_MAX_ENTRIES : Tok} (T : Txt mg tk_ANY tk_MAX_ENTRIES) (fd : Fd K mg "is_entry_within" "is_entry_within" s_is_entry_within ["one", "other"]) : Cal P w K mg base cl "is_entry_within" 1 ["one", "other"] F_is_entry_within := by
  refine fd.cal sc_is_entry_within fun f cdv A outer s H E hr => ?_
  have nd := sc_is_entry_within.nd
  have tk : Takes (cxD P w K mg base N_is_entry_within "is_entry_within" s_is_entry_within f cdv A outer s H E) (fun c d _ H => E c d H) := takes_of rfl rfl rfl rfl
  exact (dss_one (ds_ret (de_or (de_cmp (op_eqX hr.units) od_eqX (de_var 1) (de_gint T.g_ANY) (nomark _)) (de_one (de_and (de_cmp (op_neD hr.units) od_ne (de_var 0) (de_gint T.g_ANY) (nomark _)) (de_one (de_cmp op_leA od_le (de_var 0) (de_var 1) (nomark _))))))))
abbrev s_is_plain_within : Stmt := top 11
abbrev N_is_plain_within : List Str := ["one", "other", "entry", "wider"]
theorem sc_is_plain_within : FnScope N_is_plain_within ["one", "other"] (defScope s_is_plain_within) := ⟨rfl, rfl, rfl, by decide +kernel, rfl, by decide +kernel, by decide +kernel⟩
def b_is_plain_within : Sm := cRet (cA gAll (cCons (cComp (cZip (cVar 0) (cVar 1)) (bTup [bName 2, bName 3]) (cYes) (cCall 2 F_is_entry_within (cCons (cVar 2) (cCons (cVar 3) (cNil)))) [2, 3]) (cNil)))
def F_is_plain_within : List D → M D := runF 2 4 b_is_plain_within
theorem ok_is_plain_within {P : Program} {w : World} {K : PySem.W.Frag} {mg : Str → Option Value} {base : Heap} {cl : Cls_} {tk_ANY tk_MAX_ENTRIES : Tok} (T : Txt mg tk_ANY tk_MAX_ENTRIES) (fd : Fd K mg "is_plain_within" "is_plain_within" s_is_plain_within ["one", "other"]) (C_is_entry_within : Cal P w K mg base cl "is_entry_within" 1 ["one", "other"] F_is_entry_within) : Cal P w K mg base cl "is_plain_within" 2 ["one", "other"] F_is_plain_within := by
  refine fd.cal sc_is_plain_within fun f cdv A outer s H E hr => ?_
  have nd := sc_is_plain_within.nd
  have tk : Takes (cxD P w K mg base N_is_plain_within "is_plain_within" s_is_plain_within f cdv A outer s H E) (fun c d _ H => E c d H) := takes_of rfl rfl rfl rfl
  exact (dss_one (ds_ret (de_callB (cr_all rfl) cd_all T.b_all (da_cons (de_lc [("entry", 2), ("wider", 3)] rfl nd (di_zip T.b_zip (de_var 0) (de_var 1)) (blkOk_by (own := [("entry", 2), ("wider", 3)]) (N := N_is_plain_within) (sc := defScope s_is_plain_within) (by decide +kernel)) (fun _ _ _ _ _ => (dg_tup rfl (dgs_cons (dg_name (i := 2) nd) (dgs_cons (dg_name (i := 3) nd) dgs_nil)))) (fun _ _ _ _ _ => by exact dts_nil) (fun _ _ _ _ _ => by exact (de_cal C_is_entry_within (hr.mono (by decide)) takes0 (da_cons (de_var 2) (da_cons (de_var 3) da_nil))))) da_nil))))
abbrev s_sum_of : Stmt := top 12
abbrev N_sum_of : List Str := ["one", "other", "entry", "more"]
theorem sc_sum_of : FnScope N_sum_of ["one", "other"] (defScope s_sum_of) := ⟨rfl, rfl, rfl, by decide +kernel, rfl, by decide +kernel, by decide +kernel⟩
def b_sum_of : Sm := cRet (cA gTuple (cCons (cComp (cZip (cVar 0) (cVar 1)) (bTup [bName 2, bName 3]) (cYes) (cIf (cB (c2 gIn (cC (.int (-1))) (cA gTup (cCons (cVar 2) (cCons (cVar 3) (cNil)))))) (cC (.int (-1))) (c2 gAdd (cVar 2) (cVar 3))) [2, 3]) (cNil)))
def F_sum_of : List D → M D := runF 2 4 b_sum_of
theorem ok_sum_of {P : Program} {w : World} {K : PySem.W.Frag} {mg : Str → Option Value} {base : Heap} {cl : Cls_} {tk_ANY tk_MAX_ENTRIES : Tok} (T : Txt mg tk_ANY tk_MAX_ENTRIES) (fd : Fd K mg "sum_of" "sum_of" s_sum_of ["one", "other"]) : Cal P w K mg base cl "sum_of" 1 ["one", "other"] F_sum_of := by
  refine fd.cal sc_sum_of fun f cdv A outer s H E hr => ?_
  have nd := sc_sum_of.nd
  have tk : Takes (cxD P w K mg base N_sum_of "sum_of" s_sum_of f cdv A outer s H E) (fun c d _ H => E c d H) := takes_of rfl rfl rfl rfl
  exact (dss_one (ds_ret (de_callTy call_tuple_of cd_tuple T.b_tuple (da_cons (de_lc [("entry", 2), ("more", 3)] rfl nd (di_zip T.b_zip (de_var 0) (de_var 1)) (blkOk_by (own := [("entry", 2), ("more", 3)]) (N := N_sum_of) (sc := defScope s_sum_of) (by decide +kernel)) (fun _ _ _ _ _ => (dg_tup rfl (dgs_cons (dg_name (i := 2) nd) (dgs_cons (dg_name (i := 3) nd) dgs_nil)))) (fun _ _ _ _ _ => by exact dts_nil) (fun _ _ _ _ _ => by exact (de_if (dt_cmp (op_inA hr.un65) od_in (de_gint T.g_ANY) (de_tup (da_cons (de_var 2) (da_cons (de_var 3) da_nil))) (by rfl)) (de_gint T.g_ANY) (de_add (de_var 2) (de_var 3))))) da_nil))))
abbrev s_greatest_of : Stmt := top 13
abbrev N_greatest_of : List Str := ["bags", "some", "one", "other"]
theorem sc_greatest_of : FnScope N_greatest_of ["bags"] (defScope s_greatest_of) := ⟨rfl, rfl, rfl, by decide +kernel, rfl, by decide +kernel, by decide +kernel⟩
def b_greatest_of : Sm := cSeq (cAsg (c1 gSortS (cVar 0)) (bName 1)) (cRet (cA gTuple (cCons (cComp (cIt (cVar 1)) (bName 2) (cNotB (cB (cA gAny (cCons (cComp (cIt (cVar 1)) (bName 3) (cYes) (cAndV (c2 gNe (cVar 2) (cVar 3)) (cCall 2 F_is_plain_within (cCons (cVar 2) (cCons (cVar 3) (cNil))))) [3]) (cNil))))) (cVar 2) [2]) (cNil))))
def F_greatest_of : List D → M D := runF 1 4 b_greatest_of
theorem ok_greatest_of {P : Program} {w : World} {K : PySem.W.Frag} {mg : Str → Option Value} {base : Heap} {cl : Cls_} {tk_ANY tk_MAX_ENTRIES : Tok} (T : Txt mg tk_ANY tk_MAX_ENTRIES) (fd : Fd K mg "greatest_of" "greatest_of" s_greatest_of ["bags"]) (C_is_plain_within : Cal P w K mg base cl "is_plain_within" 2 ["one", "other"] F_is_plain_within) : Cal P w K mg base cl "greatest_of" 3 ["bags"] F_greatest_of := by
  refine fd.cal sc_greatest_of fun f cdv A outer s H E hr => ?_
  have nd := sc_greatest_of.nd
  have tk : Takes (cxD P w K mg base N_greatest_of "greatest_of" s_greatest_of f cdv A outer s H E) (fun c d _ H => E c d H) := takes_of rfl rfl rfl rfl
  exact (dss_cons (ds_set 1 nd (de_sortSet rfl hr.units T.b_sorted T.b_set (de_var 0))) (dss_one (ds_ret (de_callTy call_tuple_of cd_tuple T.b_tuple (da_cons (de_lc [("one", 2)] rfl nd (di_seq (de_var 1)) (blkOk_by (own := [("one", 2)]) (N := N_greatest_of) (sc := defScope s_greatest_of) (by decide +kernel)) (fun _ _ _ _ _ => (dg_name (i := 2) nd)) (fun _ _ _ _ _ => by exact (dts_one (dt_not (dt_val (de_callB (cr_any rfl) cd_any T.b_any (da_cons (de_lc [("other", 3)] rfl nd (di_seq (de_var 1)) (blkOk_by (own := [("other", 3)]) (by rfl)) (fun _ _ _ _ _ => (dg_name (i := 3) nd)) (fun _ _ _ _ _ => by exact dts_nil) (fun _ _ _ _ _ => by exact (de_and (de_cmp (op_neD hr.units) od_ne (de_var 2) (de_var 3) (nomark _)) (de_one (de_cal C_is_plain_within (hr.mono (by decide)) takes0 (da_cons (de_var 2) (da_cons (de_var 3) da_nil))))))) da_nil)))))) (fun _ _ _ _ _ => by exact (de_var 2))) da_nil)))))
abbrev s_least_of : Stmt := top 14
abbrev N_least_of : List Str := ["bags", "some", "one", "other"]
theorem sc_least_of : FnScope N_least_of ["bags"] (defScope s_least_of) := ⟨rfl, rfl, rfl, by decide +kernel, rfl, by decide +kernel, by decide +kernel⟩
def b_least_of : Sm := cSeq (cAsg (c1 gSortS (cVar 0)) (bName 1)) (cRet (cA gTuple (cCons (cComp (cIt (cVar 1)) (bName 2) (cNotB (cB (cA gAny (cCons (cComp (cIt (cVar 1)) (bName 3) (cYes) (cAndV (c2 gNe (cVar 2) (cVar 3)) (cCall 2 F_is_plain_within (cCons (cVar 3) (cCons (cVar 2) (cNil))))) [3]) (cNil))))) (cVar 2) [2]) (cNil))))
def F_least_of : List D → M D := runF 1 4 b_least_of
theorem ok_least_of {P : Program} {w : World} {K : PySem.W.Frag} {mg : Str → Option Value} {base : Heap} {cl : Cls_} {tk_ANY tk_MAX_ENTRIES : Tok} (T : Txt mg tk_ANY tk_MAX_ENTRIES) (fd : Fd K mg "least_of" "least_of" s_least_of ["bags"]) (C_is_plain_within : Cal P w K mg base cl "is_plain_within" 2 ["one", "other"] F_is_plain_within) : Cal P w K mg base cl "least_of" 3 ["bags"] F_least_of := by
  refine fd.cal sc_least_of fun f cdv A outer s H E hr => ?_
  have nd := sc_least_of.nd
  have tk : Takes (cxD P w K mg base N_least_of "least_of" s_least_of f cdv A outer s H E) (fun c d _ H => E c d H) := takes_of rfl rfl rfl rfl
  exact (dss_cons (ds_set 1 nd (de_sortSet rfl hr.units T.b_sorted T.b_set (de_var 0))) (dss_one (ds_ret (de_callTy call_tuple_of cd_tuple T.b_tuple (da_cons (de_lc [("one", 2)] rfl nd (di_seq (de_var 1)) (blkOk_by (own := [("one", 2)]) (N := N_least_of) (sc := defScope s_least_of) (by decide +kernel)) (fun _ _ _ _ _ => (dg_name (i := 2) nd)) (fun _ _ _ _ _ => by exact (dts_one (dt_not (dt_val (de_callB (cr_any rfl) cd_any T.b_any (da_cons (de_lc [("other", 3)] rfl nd (di_seq (de_var 1)) (blkOk_by (own := [("other", 3)]) (by rfl)) (fun _ _ _ _ _ => (dg_name (i := 3) nd)) (fun _ _ _ _ _ => by exact dts_nil) (fun _ _ _ _ _ => by exact (de_and (de_cmp (op_neD hr.units) od_ne (de_var 2) (de_var 3) (nomark _)) (de_one (de_cal C_is_plain_within (hr.mono (by decide)) takes0 (da_cons (de_var 3) (da_cons (de_var 2) da_nil))))))) da_nil)))))) (fun _ _ _ _ _ => by exact (de_var 2))) da_nil)))))
abbrev s_require_two : Stmt := top 15
abbrev N_require_two : List Str := ["one", "other"]
theorem sc_require_two : FnScope N_require_two ["one", "other"] (defScope s_require_two) := ⟨rfl, rfl, rfl, by decide +kernel, rfl, by decide +kernel, by decide +kernel⟩
def b_require_two : Sm := cIfS (cOrB (cNotB (cB (cCall 1 F_is_wide (cCons (cVar 0) (cNil))))) (cOrB (cNotB (cB (cCall 1 F_is_wide (cCons (cVar 1) (cNil))))) (cB (c2 gNe (cA gLen (cCons (cVar 0) (cNil))) (cA gLen (cCons (cVar 1) (cNil))))))) (cBadS) (cNext)
def F_require_two : List D → M D := runF 2 2 b_require_two
theorem ok_require_two {P : Program} {w : World} {K : PySem.W.Frag} {mg : Str → Option Value} {base : Heap} {cl : Cls_} {tk_ANY tk_MAX_ENTRIES : Tok} (T : Txt mg tk_ANY tk_MAX_ENTRIES) (fd : Fd K mg "require_two" "require_two" s_require_two ["one", "other"]) (C_is_wide : Cal P w K mg base cl "is_wide" 3 ["value"] F_is_wide) : Cal P w K mg base cl "require_two" 4 ["one", "other"] F_require_two := by
  refine fd.cal sc_require_two fun f cdv A outer s H E hr => ?_
  have nd := sc_require_two.nd
  have tk : Takes (cxD P w K mg base N_require_two "require_two" s_require_two f cdv A outer s H E) (fun c d _ H => E c d H) := takes_of rfl rfl rfl rfl
  exact (dss_one (ds_if (dw_t (dw_or (dt_not (dt_val (de_cal C_is_wide (hr.mono (by decide)) tk (da_cons (de_var 0) da_nil)))) (dw_or (dt_not (dt_val (de_cal C_is_wide (hr.mono (by decide)) tk (da_cons (de_var 1) da_nil)))) (dw_or1 (dt_cmp (op_neD hr.units) od_ne (de_callB call_len cd_len T.b_len (da_cons (de_var 0) da_nil)) (de_callB call_len cd_len T.b_len (da_cons (de_var 1) da_nil)) (nomark _)))))) (dss_one ds_bad) dss_nil))
abbrev s_require_bags : Stmt := top 16
abbrev N_require_bags : List Str := ["bags", "bag"]
theorem sc_require_bags : FnScope N_require_bags ["bags"] (defScope s_require_bags) := ⟨rfl, rfl, rfl, by decide +kernel, rfl, by decide +kernel, by decide +kernel⟩
def b_require_bags : Sm := cSeq (cIfS (cOrB (cNotB (cB (c1 (gIsi "tuple") (cVar 0)))) (cNotB (cB (cA gAll (cCons (cComp (cIt (cVar 0)) (bName 1) (cYes) (cCall 1 F_is_wide (cCons (cVar 1) (cNil))) [1]) (cNil)))))) (cBadS) (cNext)) (cIfS (cB (cA gAny (cCons (cComp (cIt (cVar 0)) (bName 1) (cYes) (c2 gNe (cA gLen (cCons (cVar 1) (cNil))) (cA gLen (cCons (c2 gIx (cVar 0) (cC (.int 0))) (cNil)))) [1]) (cNil)))) (cBadS) (cNext))
def F_require_bags : List D → M D := runF 1 2 b_require_bags
theorem ok_require_bags {P : Program} {w : World} {K : PySem.W.Frag} {mg : Str → Option Value} {base : Heap} {cl : Cls_} {tk_ANY tk_MAX_ENTRIES : Tok} (T : Txt mg tk_ANY tk_MAX_ENTRIES) (fd : Fd K mg "require_bags" "require_bags" s_require_bags ["bags"]) (C_is_wide : Cal P w K mg base cl "is_wide" 3 ["value"] F_is_wide) : Cal P w K mg base cl "require_bags" 4 ["bags"] F_require_bags := by
  refine fd.cal sc_require_bags fun f cdv A outer s H E hr => ?_
  have nd := sc_require_bags.nd
  have tk : Takes (cxD P w K mg base N_require_bags "require_bags" s_require_bags f cdv A outer s H E) (fun c d _ H => E c d H) := takes_of rfl rfl rfl rfl
  exact (dss_cons (ds_if (dw_t (dw_or (dt_not (dt_val (de_isi (T := "tuple") (by decide) T.b_isinstance T.b_tuple (de_var 0)))) (dw_or1 (dt_not (dt_val (de_callB (cr_all rfl) cd_all T.b_all (da_cons (de_lc [("bag", 1)] rfl nd (di_seq (de_var 0)) (blkOk_by (own := [("bag", 1)]) (N := N_require_bags) (sc := defScope s_require_bags) (by decide +kernel)) (fun _ _ _ _ _ => (dg_name (i := 1) nd)) (fun _ _ _ _ _ => by exact dts_nil) (fun _ _ _ _ _ => by exact (de_cal C_is_wide (hr.mono (by decide)) takes0 (da_cons (de_var 1) da_nil)))) da_nil))))))) (dss_one ds_bad) dss_nil) (dss_one (ds_if (dt_val (de_callB (cr_any rfl) cd_any T.b_any (da_cons (de_lc [("bag", 1)] rfl nd (di_seq (de_var 0)) (blkOk_by (own := [("bag", 1)]) (N := N_require_bags) (sc := defScope s_require_bags) (by decide +kernel)) (fun _ _ _ _ _ => (dg_name (i := 1) nd)) (fun _ _ _ _ _ => by exact dts_nil) (fun _ _ _ _ _ => by exact (de_cmp (op_neD hr.units) od_ne (de_callB call_len cd_len T.b_len (da_cons (de_var 1) da_nil)) (de_callB call_len cd_len T.b_len (da_cons (de_ix (de_var 0) de_int) da_nil)) (nomark _)))) da_nil))) (dss_one ds_bad) dss_nil)))
abbrev s_within : Stmt := top 17
abbrev N_within : List Str := ["one", "other"]
theorem sc_within : FnScope N_within ["one", "other"] (defScope s_within) := ⟨rfl, rfl, rfl, by decide +kernel, rfl, by decide +kernel, by decide +kernel⟩
def b_within : Sm := cSeq (cDrop (cCall 2 F_require_two (cCons (cVar 0) (cCons (cVar 1) (cNil))))) (cRet (cCall 2 F_is_plain_within (cCons (cVar 0) (cCons (cVar 1) (cNil)))))
def F_within : List D → M D := runF 2 2 b_within
theorem ok_within {P : Program} {w : World} {K : PySem.W.Frag} {mg : Str → Option Value} {base : Heap} {cl : Cls_} {tk_ANY tk_MAX_ENTRIES : Tok} (T : Txt mg tk_ANY tk_MAX_ENTRIES) (fd : Fd K mg "within" "within" s_within ["one", "other"]) (C_is_plain_within : Cal P w K mg base cl "is_plain_within" 2 ["one", "other"] F_is_plain_within) (C_require_two : Cal P w K mg base cl "require_two" 4 ["one", "other"] F_require_two) : Cal P w K mg base cl "within" 5 ["one", "other"] F_within := by
  refine fd.cal sc_within fun f cdv A outer s H E hr => ?_
  have nd := sc_within.nd
  have tk : Takes (cxD P w K mg base N_within "within" s_within f cdv A outer s H E) (fun c d _ H => E c d H) := takes_of rfl rfl rfl rfl
  exact (dss_cons (ds_expr (de_cal C_require_two (hr.mono (by decide)) tk (da_cons (de_var 0) (da_cons (de_var 1) da_nil)))) (dss_one (ds_ret (de_cal C_is_plain_within (hr.mono (by decide)) tk (da_cons (de_var 0) (da_cons (de_var 1) da_nil))))))
abbrev s_added : Stmt := top 18
abbrev N_added : List Str := ["one", "other"]
theorem sc_added : FnScope N_added ["one", "other"] (defScope s_added) := ⟨rfl, rfl, rfl, by decide +kernel, rfl, by decide +kernel, by decide +kernel⟩
def b_added : Sm := cSeq (cDrop (cCall 2 F_require_two (cCons (cVar 0) (cCons (cVar 1) (cNil))))) (cRet (cCall 2 F_sum_of (cCons (cVar 0) (cCons (cVar 1) (cNil)))))
def F_added : List D → M D := runF 2 2 b_added
theorem ok_added {P : Program} {w : World} {K : PySem.W.Frag} {mg : Str → Option Value} {base : Heap} {cl : Cls_} {tk_ANY tk_MAX_ENTRIES : Tok} (T : Txt mg tk_ANY tk_MAX_ENTRIES) (fd : Fd K mg "added" "added" s_added ["one", "other"]) (C_sum_of : Cal P w K mg base cl "sum_of" 1 ["one", "other"] F_sum_of) (C_require_two : Cal P w K mg base cl "require_two" 4 ["one", "other"] F_require_two) : Cal P w K mg base cl "added" 5 ["one", "other"] F_added := by
  refine fd.cal sc_added fun f cdv A outer s H E hr => ?_
  have nd := sc_added.nd
  have tk : Takes (cxD P w K mg base N_added "added" s_added f cdv A outer s H E) (fun c d _ H => E c d H) := takes_of rfl rfl rfl rfl
  exact (dss_cons (ds_expr (de_cal C_require_two (hr.mono (by decide)) tk (da_cons (de_var 0) (da_cons (de_var 1) da_nil)))) (dss_one (ds_ret (de_cal C_sum_of (hr.mono (by decide)) tk (da_cons (de_var 0) (da_cons (de_var 1) da_nil))))))
abbrev s_greatest : Stmt := top 19
abbrev N_greatest : List Str := ["bags"]
theorem sc_greatest : FnScope N_greatest ["bags"] (defScope s_greatest) := ⟨rfl, rfl, rfl, by decide +kernel, rfl, by decide +kernel, by decide +kernel⟩
def b_greatest : Sm := cSeq (cDrop (cCall 1 F_require_bags (cCons (cVar 0) (cNil)))) (cRet (cCall 1 F_greatest_of (cCons (cA gList (cCons (cVar 0) (cNil))) (cNil))))
def F_greatest : List D → M D := runF 1 1 b_greatest
theorem ok_greatest {P : Program} {w : World} {K : PySem.W.Frag} {mg : Str → Option Value} {base : Heap} {cl : Cls_} {tk_ANY tk_MAX_ENTRIES : Tok} (T : Txt mg tk_ANY tk_MAX_ENTRIES) (fd : Fd K mg "greatest" "greatest" s_greatest ["bags"]) (C_greatest_of : Cal P w K mg base cl "greatest_of" 3 ["bags"] F_greatest_of) (C_require_bags : Cal P w K mg base cl "require_bags" 4 ["bags"] F_require_bags) : Cal P w K mg base cl "greatest" 5 ["bags"] F_greatest := by
  refine fd.cal sc_greatest fun f cdv A outer s H E hr => ?_
  have nd := sc_greatest.nd
  have tk : Takes (cxD P w K mg base N_greatest "greatest" s_greatest f cdv A outer s H E) (fun c d _ H => E c d H) := takes_of rfl rfl rfl rfl
  exact (dss_cons (ds_expr (de_cal C_require_bags (hr.mono (by decide)) tk (da_cons (de_var 0) da_nil))) (dss_one (ds_ret (de_cal C_greatest_of (hr.mono (by decide)) tk (da_cons (de_callTy call_list_of cd_list T.b_list (da_cons (de_var 0) da_nil)) da_nil)))))
abbrev s_least : Stmt := top 20
abbrev N_least : List Str := ["bags"]
theorem sc_least : FnScope N_least ["bags"] (defScope s_least) := ⟨rfl, rfl, rfl, by decide +kernel, rfl, by decide +kernel, by decide +kernel⟩
def b_least : Sm := cSeq (cDrop (cCall 1 F_require_bags (cCons (cVar 0) (cNil)))) (cRet (cCall 1 F_least_of (cCons (cA gList (cCons (cVar 0) (cNil))) (cNil))))
def F_least : List D → M D := runF 1 1 b_least
theorem ok_least {P : Program} {w : World} {K : PySem.W.Frag} {mg : Str → Option Value} {base : Heap} {cl : Cls_} {tk_ANY tk_MAX_ENTRIES : Tok} (T : Txt mg tk_ANY tk_MAX_ENTRIES) (fd : Fd K mg "least" "least" s_least ["bags"]) (C_least_of : Cal P w K mg base cl "least_of" 3 ["bags"] F_least_of) (C_require_bags : Cal P w K mg base cl "require_bags" 4 ["bags"] F_require_bags) : Cal P w K mg base cl "least" 5 ["bags"] F_least := by
  refine fd.cal sc_least fun f cdv A outer s H E hr => ?_
  have nd := sc_least.nd
  have tk : Takes (cxD P w K mg base N_least "least" s_least f cdv A outer s H E) (fun c d _ H => E c d H) := takes_of rfl rfl rfl rfl
  exact (dss_cons (ds_expr (de_cal C_require_bags (hr.mono (by decide)) tk (da_cons (de_var 0) da_nil))) (dss_one (ds_ret (de_cal C_least_of (hr.mono (by decide)) tk (da_cons (de_callTy call_list_of cd_list T.b_list (da_cons (de_var 0) da_nil)) da_nil)))))
abbrev s_law_numbers : Stmt := top 22
abbrev N_law_numbers : List Str := ["script", "at", "cell", "whole", "mixed"]
theorem sc_law_numbers : FnScope N_law_numbers ["script", "at"] (defScope s_law_numbers) := ⟨rfl, rfl, rfl, by decide +kernel, rfl, by decide +kernel, by decide +kernel⟩
def b_law_numbers : Sm := cSeq (cAsg (cIf (cB (c2 gLt (cVar 1) (cA gLen (cCons (cVar 0) (cNil))))) (c2 gIx (cVar 0) (cVar 1)) (c2 gAdd (c2 gMul (cC (.int 67)) (cVar 1)) (cC (.int 23)))) (bName 2)) (cSeq (cAsg (c2 gMod (cA gInt (cCons (cA gAbs (cCons (cVar 2) (cNil))) (cNil))) (c2 gPow (c2 gPow (cC (.int 10)) (cC (.int 57))) (cC (.int 11)))) (bName 3)) (cSeq (cAsg (c2 gAdd (c2 gAdd (c2 gAdd (c2 gMul (cVar 3) (cC (.int 1000151))) (c2 gMul (cC (.int 8243)) (cVar 1))) (c2 gMul (cC (.int 43)) (cA gInt (cCons (c2 gLt (cVar 2) (cC (.int 0))) (cNil))))) (cC (.int 9))) (bName 4)) (cRet (cA gLstM (cCons (cA gMax2 (cCons (cC (.int 0)) (cCons (c2 gSub (cVar 3) (c2 gPow (cC (.int 10)) (cC (.int 16)))) (cNil)))) (cCons (c2 gMod (cA gInt (cCons (cVar 4) (cNil))) (cC (.int 1152921504606846877))) (cCons (cC (.int 0)) (cNil))))))))
def F_law_numbers : List D → M D := runF 2 5 b_law_numbers
theorem ok_law_numbers {P : Program} {w : World} {K : PySem.W.Frag} {mg : Str → Option Value} {base : Heap} {cl : Cls_} {tk_ANY tk_MAX_ENTRIES : Tok} (T : Txt mg tk_ANY tk_MAX_ENTRIES) (fd : Fd K mg "_law_numbers" "_law_numbers" s_law_numbers ["script", "at"]) : Cal P w K mg base cl "_law_numbers" 1 ["script", "at"] F_law_numbers := by
  refine fd.cal sc_law_numbers fun f cdv A outer s H E hr => ?_
  have nd := sc_law_numbers.nd
  have tk : Takes (cxD P w K mg base N_law_numbers "_law_numbers" s_law_numbers f cdv A outer s H E) (fun c d _ H => E c d H) := takes_of rfl rfl rfl rfl
  exact (dss_cons (ds_set 2 nd (de_if (dt_cmp op_ltA od_lt (de_var 1) (de_callB call_len cd_len T.b_len (da_cons (de_var 0) da_nil)) (nomark _)) (de_ix (de_var 0) (de_var 1)) (de_add (de_mul de_int (de_var 1)) de_int))) (dss_cons (ds_set 3 nd (de_mod (de_callTy call_int1 cd_int T.b_int (da_cons (de_callB call_abs cd_abs T.b_abs (da_cons (de_var 2) da_nil)) da_nil)) (de_pow (de_pow de_int de_int) de_int))) (dss_cons (ds_set 4 nd (de_add (de_add (de_add (de_mul (de_var 3) de_int) (de_mul de_int (de_var 1))) (de_mul de_int (de_callTy call_int1 cd_int T.b_int (da_cons (de_cmp op_ltA od_lt (de_var 2) de_int (nomark _)) da_nil)))) de_int)) (dss_one (ds_ret (de_lstM (da_cons (de_callB (call_max2 rfl) cd_max2 T.b_max (da_cons de_int (da_cons (de_sub (de_var 3) (de_pow de_int de_int)) da_nil))) (da_cons (de_mod (de_callTy call_int1 cd_int T.b_int (da_cons (de_var 4) da_nil)) de_int) (da_cons de_int da_nil)))))))))
abbrev s_law_cast : Stmt := top 23
abbrev N_law_cast : List Str := ["die", "total", "one", "two", "found"]
theorem sc_law_cast : FnScope N_law_cast ["die", "total"] (defScope s_law_cast) := ⟨rfl, rfl, rfl, by decide +kernel, rfl, by decide +kernel, by decide +kernel⟩
def b_law_cast : Sm := cSeq (cIfS (cB (c2 gGt (c2 gIx (cVar 0) (cC (.int 0))) (cC (.int 0)))) (cSeq (cAsg (c2 gMod (cA gInt (cCons (c2 gIx (cVar 0) (cC (.int 0))) (cNil))) (cVar 1)) (bName 4)) (cSeq (cSetI (c2 gFdiv (c2 gIx (cVar 0) (cC (.int 0))) (cVar 1)) (cVar 0) (cC (.int 0))) (cRet (cVar 4)))) (cNext)) (cSeq (cSetI (c2 gAdd (c2 gIx (cVar 0) (cC (.int 2))) (cC (.int 1))) (cVar 0) (cC (.int 2))) (cSeq (cAsg (c2 gMod (cA gInt (cCons (c2 gAdd (c2 gIx (cVar 0) (cC (.int 1))) (c2 gMul (cC (.int 654188429)) (c2 gIx (cVar 0) (cC (.int 2))))) (cNil))) (cC (.int 2305843009213693913))) (bName 2)) (cSeq (cAsg (c2 gAdd (c2 gMul (c2 gMod (cA gInt (cCons (c2 gMul (cVar 2) (cVar 2)) (cNil))) (cC (.int 1152921504606846689))) (cVar 2)) (c2 gMul (cC (.int 7213)) (c2 gIx (cVar 0) (cC (.int 2))))) (bName 3)) (cRet (c2 gMod (cA gInt (cCons (c2 gFdiv (c2 gMod (cA gInt (cCons (c2 gAdd (cVar 3) (c2 gIx (cVar 0) (cC (.int 1)))) (cNil))) (cC (.int 8796093022121))) (cC (.int 64))) (cNil))) (cVar 1))))))
def F_law_cast : List D → M D := runF 2 5 b_law_cast
theorem ok_law_cast {P : Program} {w : World} {K : PySem.W.Frag} {mg : Str → Option Value} {base : Heap} {cl : Cls_} {tk_ANY tk_MAX_ENTRIES : Tok} (T : Txt mg tk_ANY tk_MAX_ENTRIES) (fd : Fd K mg "_law_cast" "_law_cast" s_law_cast ["die", "total"]) : Cal P w K mg base cl "_law_cast" 1 ["die", "total"] F_law_cast := by
  refine fd.cal sc_law_cast fun f cdv A outer s H E hr => ?_
  have nd := sc_law_cast.nd
  have tk : Takes (cxD P w K mg base N_law_cast "_law_cast" s_law_cast f cdv A outer s H E) (fun c d _ H => E c d H) := takes_of rfl rfl rfl rfl
  exact (dss_cons (ds_if (dt_cmp op_gt od_gt (de_ix (de_var 0) de_int) de_int (nomark _)) (dss_cons (ds_set 4 nd (de_mod (de_callTy call_int1 cd_int T.b_int (da_cons (de_ix (de_var 0) de_int) da_nil)) (de_var 1))) (dss_cons (ds_setI (de_fdiv (de_ix (de_var 0) de_int) (de_var 1)) (de_var 0) de_int) (dss_one (ds_ret (de_var 4))))) dss_nil) (dss_cons (ds_setI (de_add (de_ix (de_var 0) de_int) de_int) (de_var 0) de_int) (dss_cons (ds_set 2 nd (de_mod (de_callTy call_int1 cd_int T.b_int (da_cons (de_add (de_ix (de_var 0) de_int) (de_mul de_int (de_ix (de_var 0) de_int))) da_nil)) de_int)) (dss_cons (ds_set 3 nd (de_add (de_mul (de_mod (de_callTy call_int1 cd_int T.b_int (da_cons (de_mul (de_var 2) (de_var 2)) da_nil)) de_int) (de_var 2)) (de_mul de_int (de_ix (de_var 0) de_int)))) (dss_one (ds_ret (de_mod (de_callTy call_int1 cd_int T.b_int (da_cons (de_fdiv (de_mod (de_callTy call_int1 cd_int T.b_int (da_cons (de_add (de_var 3) (de_ix (de_var 0) de_int)) da_nil)) de_int) de_int) da_nil)) (de_var 1))))))))
abbrev s_law_pick : Stmt := top 24
abbrev N_law_pick : List Str := ["die", "items"]
theorem sc_law_pick : FnScope N_law_pick ["die", "items"] (defScope s_law_pick) := ⟨rfl, rfl, rfl, by decide +kernel, rfl, by decide +kernel, by decide +kernel⟩
def b_law_pick : Sm := cRet (c2 gIx (cVar 1) (cCall 2 F_law_cast (cCons (cVar 0) (cCons (cA gLen (cCons (cVar 1) (cNil))) (cNil)))))
def F_law_pick : List D → M D := runF 2 2 b_law_pick
theorem ok_law_pick {P : Program} {w : World} {K : PySem.W.Frag} {mg : Str → Option Value} {base : Heap} {cl : Cls_} {tk_ANY tk_MAX_ENTRIES : Tok} (T : Txt mg tk_ANY tk_MAX_ENTRIES) (fd : Fd K mg "_law_pick" "_law_pick" s_law_pick ["die", "items"]) (C_law_cast : Cal P w K mg base cl "_law_cast" 1 ["die", "total"] F_law_cast) : Cal P w K mg base cl "_law_pick" 2 ["die", "items"] F_law_pick := by
  refine fd.cal sc_law_pick fun f cdv A outer s H E hr => ?_
  have nd := sc_law_pick.nd
  have tk : Takes (cxD P w K mg base N_law_pick "_law_pick" s_law_pick f cdv A outer s H E) (fun c d _ H => E c d H) := takes_of rfl rfl rfl rfl
  exact (dss_one (ds_ret (de_ix (de_var 1) (de_cal C_law_cast (hr.mono (by decide)) tk (da_cons (de_var 0) (da_cons (de_callB call_len cd_len T.b_len (da_cons (de_var 1) da_nil)) da_nil))))))
abbrev s_law_any_wide : Stmt := top 25
abbrev N_law_any_wide : List Str := ["die", "size", "turn"]
theorem sc_law_any_wide : FnScope N_law_any_wide ["die", "size"] (defScope s_law_any_wide) := ⟨rfl, rfl, rfl, by decide +kernel, rfl, by decide +kernel, by decide +kernel⟩
def b_law_any_wide : Sm := cRet (cA gTuple (cCons (cComp (cRng1 (cVar 1)) (bName 2) (cYes) (cCall 2 F_law_pick (cCons (cVar 0) (cCons (cA gLst (cCons (cC (.int 0)) (cCons (cC (.int 1)) (cCons (c1 gNeg (cC (.int 1))) (cCons (cC (.int 2)) (cCons (cC (.int 3)) (cCons (c1 gNeg (cC (.int 1))) (cCons (c2 gPow (cC (.int 10)) (cC (.int 38))) (cNil))))))))) (cNil)))) [2]) (cNil)))
def F_law_any_wide : List D → M D := runF 2 3 b_law_any_wide
theorem ok_law_any_wide {P : Program} {w : World} {K : PySem.W.Frag} {mg : Str → Option Value} {base : Heap} {cl : Cls_} {tk_ANY tk_MAX_ENTRIES : Tok} (T : Txt mg tk_ANY tk_MAX_ENTRIES) (fd : Fd K mg "_law_any_wide" "_law_any_wide" s_law_any_wide ["die", "size"]) (C_law_pick : Cal P w K mg base cl "_law_pick" 2 ["die", "items"] F_law_pick) : Cal P w K mg base cl "_law_any_wide" 3 ["die", "size"] F_law_any_wide := by
  refine fd.cal sc_law_any_wide fun f cdv A outer s H E hr => ?_
  have nd := sc_law_any_wide.nd
  have tk : Takes (cxD P w K mg base N_law_any_wide "_law_any_wide" s_law_any_wide f cdv A outer s H E) (fun c d _ H => E c d H) := takes_of rfl rfl rfl rfl
  exact (dss_one (ds_ret (de_callTy call_tuple_of cd_tuple T.b_tuple (da_cons (de_lc [("turn", 2)] rfl nd (di_rng1 T.b_range (de_var 1)) (blkOk_by (own := [("turn", 2)]) (N := N_law_any_wide) (sc := defScope s_law_any_wide) (by decide +kernel)) (fun _ _ _ _ _ => (dg_name (i := 2) nd)) (fun _ _ _ _ _ => by exact dts_nil) (fun _ _ _ _ _ => by exact (de_cal C_law_pick (hr.mono (by decide)) takes0 (da_cons (de_var 0) (da_cons (de_lst (da_cons de_int (da_cons de_int (da_cons (de_neg de_int) (da_cons de_int (da_cons de_int (da_cons (de_neg de_int) (da_cons (de_pow de_int de_int) da_nil)))))))) da_nil))))) da_nil))))
abbrev s_law_right : Stmt := top 26
abbrev N_law_right : List Str := ["die", "size", "some", "told", "one", "more", "moved", "upper", "lower", "turn", "others", "other"]
theorem sc_law_right : FnScope N_law_right ["die"] (defScope s_law_right) := ⟨rfl, rfl, rfl, by decide +kernel, rfl, by decide +kernel, by decide +kernel⟩
def b_law_right : Sm := cSeq (cAsg (cCall 2 F_law_pick (cCons (cVar 0) (cCons (cA gLst (cCons (cC (.int 2)) (cCons (cC (.int 1)) (cCons (cC (.int 3)) (cCons (cC (.int 4)) (cCons (cC (.int 5)) (cNil))))))) (cNil)))) (bName 1)) (cSeq (cAsg (cComp (cRng1 (cCall 2 F_law_cast (cCons (cVar 0) (cCons (cC (.int 9)) (cNil))))) (bName 9) (cYes) (cCall 2 F_law_any_wide (cCons (cVar 0) (cCons (cVar 1) (cNil)))) [9]) (bName 2)) (cSeq (cAsg (cA gTuple (cCons (c2 gAdd (cVar 2) (cComp (cRng1 (cCall 2 F_law_cast (cCons (cVar 0) (cCons (cC (.int 3)) (cNil))))) (bName 9) (cB (c2 gNe (cVar 2) (cA gLst (cNil)))) (cCall 2 F_law_pick (cCons (cVar 0) (cCons (cVar 2) (cNil)))) [9])) (cNil))) (bName 2)) (cSeq (cPar 7 8 (cCons (cCall 1 F_greatest (cCons (cVar 2) (cNil))) (cCons (cCall 1 F_least (cCons (cVar 2) (cNil))) (cNil)))) (cSeq (cFor (cIt (cA gTup (cCons (cVar 7) (cCons (cVar 8) (cNil))))) (bName 3) (cSeq (cIfS (cB (c2 gNe (cA gList (cCons (cVar 3) (cNil))) (c1 gSortS (cVar 3)))) (cRet (cC (.bl false))) (cNext)) (cSeq (cIfS (cB (c2 gNe (cComp (cIt (cVar 3)) (bName 4) (cB (c2 gNotIn (cVar 4) (cVar 2))) (cVar 4) [4]) (cA gLst (cNil)))) (cRet (cC (.bl false))) (cNext)) (cFor (cIt (cVar 3)) (bName 4) (cSeq (cAsg (cComp (cIt (cVar 3)) (bName 11) (cB (c2 gNe (cVar 11) (cVar 4))) (cVar 11) [11]) (bName 10)) (cIfS (cB (c2 gNe (cComp (cIt (cVar 10)) (bName 11) (cB (cCall 2 F_within (cCons (cVar 4) (cCons (cVar 11) (cNil))))) (cVar 11) [11]) (cA gLst (cNil)))) (cRet (cC (.bl false))) (cNext))))))) (cSeq (cFor (cIt (cVar 2)) (bName 4) (cSeq (cIfS (cB (c2 gEqX (cComp (cIt (cVar 7)) (bName 11) (cB (cCall 2 F_within (cCons (cVar 4) (cCons (cVar 11) (cNil))))) (cVar 11) [11]) (cA gLst (cNil)))) (cRet (cC (.bl false))) (cNext)) (cIfS (cB (c2 gEqX (cComp (cIt (cVar 8)) (bName 11) (cB (cCall 2 F_within (cCons (cVar 11) (cCons (cVar 4) (cNil))))) (cVar 11) [11]) (cA gLst (cNil)))) (cRet (cC (.bl false))) (cNext)))) (cSeq (cAsg (cA gTuple (cCons (cComp (cRng1 (cVar 1)) (bName 9) (cYes) (cCall 2 F_law_pick (cCons (cVar 0) (cCons (cA gLst (cCons (cC (.int 0)) (cCons (cC (.int 1)) (cCons (cC (.int 7)) (cNil))))) (cNil)))) [9]) (cNil))) (bName 5)) (cSeq (cAsg (cA gTuple (cCons (cComp (cIt (cVar 2)) (bName 4) (cYes) (cCall 2 F_added (cCons (cVar 4) (cCons (cVar 5) (cNil)))) [4]) (cNil))) (bName 6)) (cSeq (cIfS (cB (c2 gNe (cCall 1 F_greatest (cCons (cVar 6) (cNil))) (cA gTuple (cCons (cA gSort (cCons (cComp (cIt (cVar 7)) (bName 4) (cYes) (cCall 2 F_added (cCons (cVar 4) (cCons (cVar 5) (cNil)))) [4]) (cNil))) (cNil))))) (cRet (cC (.bl false))) (cNext)) (cSeq (cIfS (cB (c2 gNe (cCall 1 F_greatest (cCons (cVar 7) (cNil))) (cVar 7))) (cRet (cC (.bl false))) (cNext)) (cSeq (cIfS (cB (c2 gNe (cCall 1 F_least (cCons (cVar 8) (cNil))) (cVar 8))) (cRet (cC (.bl false))) (cNext)) (cRet (c2 gEqX (cCall 1 F_greatest (cCons (c1 gRev (cVar 2)) (cNil))) (cVar 7)))))))))))))
def F_law_right : List D → M D := runF 1 12 b_law_right
theorem ok_law_right {P : Program} {w : World} {K : PySem.W.Frag} {mg : Str → Option Value} {base : Heap} {cl : Cls_} {tk_ANY tk_MAX_ENTRIES : Tok} (T : Txt mg tk_ANY tk_MAX_ENTRIES) (fd : Fd K mg "_law_right" "_law_right" s_law_right ["die"]) (C_greatest : Cal P w K mg base cl "greatest" 5 ["bags"] F_greatest) (C_least : Cal P w K mg base cl "least" 5 ["bags"] F_least) (C_added : Cal P w K mg base cl "added" 5 ["one", "other"] F_added) (C_law_pick : Cal P w K mg base cl "_law_pick" 2 ["die", "items"] F_law_pick) (C_within : Cal P w K mg base cl "within" 5 ["one", "other"] F_within) (C_law_cast : Cal P w K mg base cl "_law_cast" 1 ["die", "total"] F_law_cast) (C_law_any_wide : Cal P w K mg base cl "_law_any_wide" 3 ["die", "size"] F_law_any_wide) : Cal P w K mg base cl "_law_right" 6 ["die"] F_law_right := by
  refine fd.cal sc_law_right fun f cdv A outer s H E hr => ?_
  have nd := sc_law_right.nd
  have tk : Takes (cxD P w K mg base N_law_right "_law_right" s_law_right f cdv A outer s H E) (fun c d _ H => E c d H) := takes_of rfl rfl rfl rfl
  exact (dss_cons (ds_set 1 nd (de_cal C_law_pick (hr.mono (by decide)) tk (da_cons (de_var 0) (da_cons (de_lst (da_cons de_int (da_cons de_int (da_cons de_int (da_cons de_int (da_cons de_int da_nil)))))) da_nil)))) (dss_cons (ds_set 2 nd (de_lc [("turn", 9)] rfl nd (di_rng1 T.b_range (de_cal C_law_cast (hr.mono (by decide)) tk (da_cons (de_var 0) (da_cons de_int da_nil)))) (blkOk_by (own := [("turn", 9)]) (N := N_law_right) (sc := defScope s_law_right) (by decide +kernel)) (fun _ _ _ _ _ => (dg_name (i := 9) nd)) (fun _ _ _ _ _ => by exact dts_nil) (fun _ _ _ _ _ => by exact (de_cal C_law_any_wide (hr.mono (by decide)) takes0 (da_cons (de_var 0) (da_cons (de_var 1) da_nil))))) (hs := sw_cell rfl)) (dss_cons (ds_set 2 nd (de_callTy call_tuple_of cd_tuple T.b_tuple (da_cons (de_add (de_var 2) (de_lc [("turn", 9)] rfl nd (di_rng1 T.b_range (de_cal C_law_cast (hr.mono (by decide)) tk (da_cons (de_var 0) (da_cons de_int da_nil)))) (blkOk_by (own := [("turn", 9)]) (N := N_law_right) (sc := defScope s_law_right) (by decide +kernel)) (fun _ _ _ _ _ => (dg_name (i := 9) nd)) (fun _ _ _ _ _ => by exact (dts_one (dt_cmp (op_neD hr.units) od_ne (de_var 2) (de_lst da_nil) (nomark _)))) (fun _ _ _ _ _ => by exact (de_cal C_law_pick (hr.mono (by decide)) takes0 (da_cons (de_var 0) (da_cons (de_var 2) da_nil)))))) da_nil))) (dss_cons (ds_par 7 8 rfl nd (da_cons (de_cal C_greatest (hr.mono (by decide)) tk (da_cons (de_var 2) da_nil)) (da_cons (de_cal C_least (hr.mono (by decide)) tk (da_cons (de_var 2) da_nil)) da_nil))) (dss_cons (ds_for (passes_of rfl) rfl (di_seq (de_tup (da_cons (de_var 7) (da_cons (de_var 8) da_nil)))) (dg_name (i := 3) nd) (dss_cons (ds_if (dt_cmp (op_neD hr.units) od_ne (de_callTy call_list_of cd_list T.b_list (da_cons (de_var 3) da_nil)) (de_sortSet rfl hr.units T.b_sorted T.b_set (de_var 3)) (nomark _)) (dss_one (ds_ret de_bl)) dss_nil) (dss_cons (ds_if (dt_cmp (op_neD hr.units) od_ne (de_lc [("one", 4)] rfl nd (di_seq (de_var 3)) (blkOk_by (own := [("one", 4)]) (N := N_law_right) (sc := defScope s_law_right) (by decide +kernel)) (fun _ _ _ _ _ => (dg_name (i := 4) nd)) (fun _ _ _ _ _ => by exact (dts_one (dt_cmp (op_notInA hr.un65) od_notIn (de_var 4) (de_var 2) (by rfl)))) (fun _ _ _ _ _ => by exact (de_var 4))) (de_lst da_nil) (nomark _)) (dss_one (ds_ret de_bl)) dss_nil) (dss_one (ds_for (passes_of rfl) rfl (di_seq (de_var 3)) (dg_name (i := 4) nd) (dss_cons (ds_setLc 10 [("other", 11)] rfl nd (di_seq (de_var 3)) (blkOk_by (own := [("other", 11)]) (N := N_law_right) (sc := defScope s_law_right) (by decide +kernel)) (fun _ _ _ _ _ => (dg_name (i := 11) nd)) (fun _ _ _ _ _ => by exact (dts_one (dt_cmp (op_neD hr.units) od_ne (de_var 11) (de_var 4) (nomark _)))) (fun _ _ _ _ _ => by exact (de_var 11))) (dss_one (ds_if (dt_cmp (op_neD hr.units) od_ne (de_lc [("other", 11)] rfl nd (di_seq (de_var 10)) (blkOk_by (own := [("other", 11)]) (N := N_law_right) (sc := defScope s_law_right) (by decide +kernel)) (fun _ _ _ _ _ => (dg_name (i := 11) nd)) (fun _ _ _ _ _ => by exact (dts_one (dt_val (de_cal C_within (hr.mono (by decide)) takes0 (da_cons (de_var 4) (da_cons (de_var 11) da_nil)))))) (fun _ _ _ _ _ => by exact (de_var 11))) (de_lst da_nil) (nomark _)) (dss_one (ds_ret de_bl)) dss_nil)))))))) (dss_cons (ds_for (passes_of rfl) rfl (di_seq (de_var 2)) (dg_name (i := 4) nd) (dss_cons (ds_if (dt_cmp (op_eqX hr.units) od_eqX (de_lc [("other", 11)] rfl nd (di_seq (de_var 7)) (blkOk_by (own := [("other", 11)]) (N := N_law_right) (sc := defScope s_law_right) (by decide +kernel)) (fun _ _ _ _ _ => (dg_name (i := 11) nd)) (fun _ _ _ _ _ => by exact (dts_one (dt_val (de_cal C_within (hr.mono (by decide)) takes0 (da_cons (de_var 4) (da_cons (de_var 11) da_nil)))))) (fun _ _ _ _ _ => by exact (de_var 11))) (de_lst da_nil) (nomark _)) (dss_one (ds_ret de_bl)) dss_nil) (dss_one (ds_if (dt_cmp (op_eqX hr.units) od_eqX (de_lc [("other", 11)] rfl nd (di_seq (de_var 8)) (blkOk_by (own := [("other", 11)]) (N := N_law_right) (sc := defScope s_law_right) (by decide +kernel)) (fun _ _ _ _ _ => (dg_name (i := 11) nd)) (fun _ _ _ _ _ => by exact (dts_one (dt_val (de_cal C_within (hr.mono (by decide)) takes0 (da_cons (de_var 11) (da_cons (de_var 4) da_nil)))))) (fun _ _ _ _ _ => by exact (de_var 11))) (de_lst da_nil) (nomark _)) (dss_one (ds_ret de_bl)) dss_nil)))) (dss_cons (ds_set 5 nd (de_callTy call_tuple_of cd_tuple T.b_tuple (da_cons (de_lc [("turn", 9)] rfl nd (di_rng1 T.b_range (de_var 1)) (blkOk_by (own := [("turn", 9)]) (N := N_law_right) (sc := defScope s_law_right) (by decide +kernel)) (fun _ _ _ _ _ => (dg_name (i := 9) nd)) (fun _ _ _ _ _ => by exact dts_nil) (fun _ _ _ _ _ => by exact (de_cal C_law_pick (hr.mono (by decide)) takes0 (da_cons (de_var 0) (da_cons (de_lst (da_cons de_int (da_cons de_int (da_cons de_int da_nil)))) da_nil))))) da_nil))) (dss_cons (ds_set 6 nd (de_callTy call_tuple_of cd_tuple T.b_tuple (da_cons (de_lc [("one", 4)] rfl nd (di_seq (de_var 2)) (blkOk_by (own := [("one", 4)]) (N := N_law_right) (sc := defScope s_law_right) (by decide +kernel)) (fun _ _ _ _ _ => (dg_name (i := 4) nd)) (fun _ _ _ _ _ => by exact dts_nil) (fun _ _ _ _ _ => by exact (de_cal C_added (hr.mono (by decide)) takes0 (da_cons (de_var 4) (da_cons (de_var 5) da_nil))))) da_nil))) (dss_cons (ds_if (dt_cmp (op_neD hr.units) od_ne (de_cal C_greatest (hr.mono (by decide)) tk (da_cons (de_var 6) da_nil)) (de_callTy call_tuple_of cd_tuple T.b_tuple (da_cons (de_callB cr_sortL cd_sort T.b_sorted (da_cons (de_lc [("one", 4)] rfl nd (di_seq (de_var 7)) (blkOk_by (own := [("one", 4)]) (N := N_law_right) (sc := defScope s_law_right) (by decide +kernel)) (fun _ _ _ _ _ => (dg_name (i := 4) nd)) (fun _ _ _ _ _ => by exact dts_nil) (fun _ _ _ _ _ => by exact (de_cal C_added (hr.mono (by decide)) takes0 (da_cons (de_var 4) (da_cons (de_var 5) da_nil))))) da_nil)) da_nil)) (nomark _)) (dss_one (ds_ret de_bl)) dss_nil) (dss_cons (ds_if (dt_cmp (op_neD hr.units) od_ne (de_cal C_greatest (hr.mono (by decide)) tk (da_cons (de_var 7) da_nil)) (de_var 7) (nomark _)) (dss_one (ds_ret de_bl)) dss_nil) (dss_cons (ds_if (dt_cmp (op_neD hr.units) od_ne (de_cal C_least (hr.mono (by decide)) tk (da_cons (de_var 8) da_nil)) (de_var 8) (nomark _)) (dss_one (ds_ret de_bl)) dss_nil) (dss_one (ds_ret (de_cmp (op_eqX hr.units) od_eqX (de_cal C_greatest (hr.mono (by decide)) tk (da_cons (de_rev (de_var 2)) da_nil)) (de_var 7) (nomark _)))))))))))))))
abbrev s_law : Stmt := top 27
abbrev N_law : List Str := ["script", "at", "some", "die", "turn"]
theorem sc_law : FnScope N_law ["script"] (defScope s_law) := ⟨rfl, rfl, rfl, by decide +kernel, rfl, by decide +kernel, by decide +kernel⟩
def b_law : Sm := cSeq (cFor (cRng1 (cA gMax2 (cCons (cC (.int 1)) (cCons (cA gMin2 (cCons (cC (.int 8)) (cCons (cA gLen (cCons (cVar 0) (cNil))) (cNil)))) (cNil))))) (bName 1) (cSeq (cAsg (cCall 2 F_law_numbers (cCons (cVar 0) (cCons (cVar 1) (cNil)))) (bName 3)) (cFor (cRng1 (cC (.int 3))) (bName 4) (cIfS (cNotB (cB (cCall 1 F_law_right (cCons (cVar 3) (cNil))))) (cRet (cC (.bl false))) (cNext))))) (cSeq (cAsg (cA gTup (cCons (cA gTup (cCons (cC (.int 2)) (cCons (cC (.int 0)) (cNil)))) (cCons (cA gTup (cCons (cC (.int 1)) (cCons (cC (.int 1)) (cNil)))) (cCons (cA gTup (cCons (c1 gNeg (cC (.int 1))) (cCons (cC (.int 0)) (cNil)))) (cCons (cA gTup (cCons (cC (.int 0)) (cCons (cC (.int 1)) (cNil)))) (cCons (cA gTup (cCons (cC (.int 1)) (cCons (cC (.int 1)) (cNil)))) (cCons (cA gTup (cCons (cC (.int 0)) (cCons (c1 gNeg (cC (.int 1))) (cNil)))) (cNil)))))))) (bName 2)) (cSeq (cIfS (cB (c2 gNe (cA gLst (cCons (cCall 1 F_greatest (cCons (cVar 2) (cNil))) (cCons (cCall 1 F_least (cCons (cVar 2) (cNil))) (cNil)))) (cA gLst (cCons (cA gTup (cCons (cA gTup (cCons (c1 gNeg (cC (.int 1))) (cCons (cC (.int 0)) (cNil)))) (cCons (cA gTup (cCons (cC (.int 0)) (cCons (c1 gNeg (cC (.int 1))) (cNil)))) (cCons (cA gTup (cCons (cC (.int 1)) (cCons (cC (.int 1)) (cNil)))) (cNil))))) (cCons (cA gTup (cCons (cA gTup (cCons (cC (.int 0)) (cCons (cC (.int 1)) (cNil)))) (cCons (cA gTup (cCons (cC (.int 2)) (cCons (cC (.int 0)) (cNil)))) (cNil)))) (cNil)))))) (cRet (cC (.bl false))) (cNext)) (cRet (c2 gEqX (cA gLst (cCons (cCall 1 F_greatest (cCons (cA gTup (cNil)) (cNil))) (cCons (cCall 1 F_least (cCons (cA gTup (cNil)) (cNil))) (cCons (cCall 1 F_greatest (cCons (cA gTup (cCons (cA gTup (cCons (cC (.int 0)) (cNil))) (cCons (cA gTup (cCons (cC (.int 0)) (cNil))) (cNil)))) (cNil))) (cNil))))) (cA gLst (cCons (cA gTup (cNil)) (cCons (cA gTup (cNil)) (cCons (cA gTup (cCons (cA gTup (cCons (cC (.int 0)) (cNil))) (cNil))) (cNil)))))))))
def F_law : List D → M D := runF 1 5 b_law
theorem ok_law {P : Program} {w : World} {K : PySem.W.Frag} {mg : Str → Option Value} {base : Heap} {cl : Cls_} {tk_ANY tk_MAX_ENTRIES : Tok} {f : Addr} {fdat : FuncData} (T : Txt mg tk_ANY tk_MAX_ENTRIES) (F : Fun K "law" "law" s_law f fdat) (C_greatest : Cal P w K mg base cl "greatest" 5 ["bags"] F_greatest) (C_least : Cal P w K mg base cl "least" 5 ["bags"] F_least) (C_law_right : Cal P w K mg base cl "_law_right" 6 ["die"] F_law_right) (C_law_numbers : Cal P w K mg base cl "_law_numbers" 1 ["script", "at"] F_law_numbers) : FnD P w K mg base cl 7 f fdat ["script"] F_law := by
  refine fn_D F sc_law fun cdv A outer s H E hr => ?_
  have nd := sc_law.nd
  have tk : Takes (cxD P w K mg base N_law "law" s_law f cdv A outer s H E) (fun c d _ H => E c d H) := takes_of rfl rfl rfl rfl
  exact (dss_cons (ds_for (passes_of rfl) rfl (di_rng1 T.b_range (de_callB (call_max2 rfl) cd_max2 T.b_max (da_cons de_int (da_cons (de_callB (call_min2 rfl) cd_min2 T.b_min (da_cons de_int (da_cons (de_callB call_len cd_len T.b_len (da_cons (de_var 0) da_nil)) da_nil))) da_nil)))) (dg_name (i := 1) nd) (dss_cons (ds_set 3 nd (de_cal C_law_numbers (hr.mono (by decide)) tk (da_cons (de_var 0) (da_cons (de_var 1) da_nil)))) (dss_one (ds_for (passes_of rfl) rfl (di_rng1 T.b_range de_int) (dg_name (i := 4) nd) (dss_one (ds_if (dt_not (dt_val (de_cal C_law_right (hr.mono (by decide)) tk (da_cons (de_var 3) da_nil)))) (dss_one (ds_ret de_bl)) dss_nil)))))) (dss_cons (ds_set 2 nd (de_tup (da_cons (de_tup (da_cons de_int (da_cons de_int da_nil))) (da_cons (de_tup (da_cons de_int (da_cons de_int da_nil))) (da_cons (de_tup (da_cons (de_neg de_int) (da_cons de_int da_nil))) (da_cons (de_tup (da_cons de_int (da_cons de_int da_nil))) (da_cons (de_tup (da_cons de_int (da_cons de_int da_nil))) (da_cons (de_tup (da_cons de_int (da_cons (de_neg de_int) da_nil))) da_nil)))))))) (dss_cons (ds_if (dt_cmp (op_neD hr.units) od_ne (de_lst (da_cons (de_cal C_greatest (hr.mono (by decide)) tk (da_cons (de_var 2) da_nil)) (da_cons (de_cal C_least (hr.mono (by decide)) tk (da_cons (de_var 2) da_nil)) da_nil))) (de_lst (da_cons (de_tup (da_cons (de_tup (da_cons (de_neg de_int) (da_cons de_int da_nil))) (da_cons (de_tup (da_cons de_int (da_cons (de_neg de_int) da_nil))) (da_cons (de_tup (da_cons de_int (da_cons de_int da_nil))) da_nil)))) (da_cons (de_tup (da_cons (de_tup (da_cons de_int (da_cons de_int da_nil))) (da_cons (de_tup (da_cons de_int (da_cons de_int da_nil))) da_nil))) da_nil))) (nomark _)) (dss_one (ds_ret de_bl)) dss_nil) (dss_one (ds_ret (de_cmp (op_eqX hr.units) od_eqX (de_lst (da_cons (de_cal C_greatest (hr.mono (by decide)) tk (da_cons (de_tup da_nil) da_nil)) (da_cons (de_cal C_least (hr.mono (by decide)) tk (da_cons (de_tup da_nil) da_nil)) (da_cons (de_cal C_greatest (hr.mono (by decide)) tk (da_cons (de_tup (da_cons (de_tup (da_cons de_int da_nil)) (da_cons (de_tup (da_cons de_int da_nil)) da_nil))) da_nil)) da_nil)))) (de_lst (da_cons (de_tup da_nil) (da_cons (de_tup da_nil) (da_cons (de_tup (da_cons (de_tup (da_cons de_int da_nil)) da_nil)) da_nil)))) (nomark _)))))))
end K03
namespace K03
open PySem PySem.Spec PyProof.Rows L2 DN KB
theorem run_numbers (ns : List Int) (k : Nat) (S : Store) : ∃ S', F_law_numbers [.scr ns, .int k] S = .ok (.mut S.length) S' ∧ IsDie S.length S' := by
  refine wl_run rfl ?_
  refine wl_asg ?_
  have hc : ∃ v, Wp (fun S' => S' = S) (cIf (cB (c2 gLt (cVar 1) (cA gLen (cCons (cVar 0) (cNil))))) (c2 gIx (cVar 0) (cVar 1)) (c2 gAdd (c2 gMul (cC (.int 67)) (cVar 1)) (cC (.int 23))) [Sl.val (.scr ns), Sl.val (.int k), Sl.un, Sl.un, Sl.un]) (fun d => d = D.int v) X0 := by
    by_cases hk : (k : Int) < ns.length
    · obtain ⟨v, e, _⟩ := at_some (xs := ns) (i := k) (by omega) hk
      refine ⟨v, ?_⟩
      (repeat (first | with_reducible refine w_c2 ?_ | with_reducible refine w_c1 ?_ | with_reducible refine w_cA ?_ | with_reducible refine w_cons ?_ | with_reducible refine w_nil ?_ | with_reducible refine w_c ?_ | with_reducible refine w_call ?_ | with_reducible refine w_it ?_ | with_reducible refine w_rng1 ?_ | with_reducible refine w_rng2 ?_ | with_reducible refine w_m0 ?_ | with_reducible refine w_m1 ?_ | with_reducible refine w_sl ?_ | with_reducible refine w_part ?_ | with_reducible refine w_noP ?_ | with_reducible refine w_b ?_ | with_reducible refine w_notB ?_ | with_reducible refine w_if ?_ | with_reducible refine w_chain ?_ | with_reducible refine w_zip ?_ | with_reducible refine w_enum ?_ | with_reducible refine wg_add ?_ | with_reducible refine wg_sub ?_ | with_reducible refine wg_neg ?_ | with_reducible refine wg_lt ?_ | with_reducible refine wg_le ?_ | with_reducible refine wg_gt ?_ | with_reducible refine wg_ge ?_ | with_reducible refine wg_not ?_ | with_reducible refine wg_lenL ?_ | with_reducible refine wg_lenT ?_ | with_reducible refine wg_lenC ?_ | with_reducible refine wg_int ?_ | with_reducible refine wg_intB ?_ | with_reducible refine wg_abs ?_ | with_reducible refine wg_max2 ?_ | with_reducible refine wg_min2 ?_ | with_reducible refine wg_reprB ?_ | with_reducible refine wg_itL ?_ | with_reducible refine wg_itT ?_ | with_reducible refine wg_itC ?_ | with_reducible refine wg_itS ?_ | with_reducible refine wg_slL ?_ | with_reducible refine wg_slT ?_ | with_reducible refine wg_tupleL ?_ | with_reducible refine wg_tupleT ?_ | with_reducible refine wg_listL ?_ | with_reducible refine wg_listT ?_ | with_reducible refine wg_revL ?_ | with_reducible refine wg_revT ?_ | with_reducible refine wg_zipT ?_ | with_reducible refine wg_allM ?_ | with_reducible refine wg_anyM ?_ | with_reducible refine w_var (by with_unfolding_all rfl) ?_ | with_reducible refine wg_mul (Or.inr (by decide)) ?_ | with_reducible refine wg_mul (Or.inl (by decide)) ?_ | with_reducible refine wg_mod (by decide +kernel) ?_ | with_reducible refine wg_fdiv (by decide) ?_ | with_reducible refine wg_pow (by decide +kernel) ?_ | with_reducible refine wg_tup (by simp; done) ?_ | with_reducible refine wg_lst (by simp; done) ?_ | with_reducible refine w_dieSet (by decide) ?_ | with_reducible refine w_dieAt (by decide) (fun _ => ?_) | refine ⟨_, rfl, ?_⟩ | refine ⟨rfl, ?_⟩))
      refine ⟨fun _ => ?_, fun h => absurd (decide_eq_true hk) (by rw [h]; decide)⟩
      (repeat (first | with_reducible refine w_c2 ?_ | with_reducible refine w_c1 ?_ | with_reducible refine w_cA ?_ | with_reducible refine w_cons ?_ | with_reducible refine w_nil ?_ | with_reducible refine w_c ?_ | with_reducible refine w_call ?_ | with_reducible refine w_it ?_ | with_reducible refine w_rng1 ?_ | with_reducible refine w_rng2 ?_ | with_reducible refine w_m0 ?_ | with_reducible refine w_m1 ?_ | with_reducible refine w_sl ?_ | with_reducible refine w_part ?_ | with_reducible refine w_noP ?_ | with_reducible refine w_b ?_ | with_reducible refine w_notB ?_ | with_reducible refine w_if ?_ | with_reducible refine w_chain ?_ | with_reducible refine w_zip ?_ | with_reducible refine w_enum ?_ | with_reducible refine wg_add ?_ | with_reducible refine wg_sub ?_ | with_reducible refine wg_neg ?_ | with_reducible refine wg_lt ?_ | with_reducible refine wg_le ?_ | with_reducible refine wg_gt ?_ | with_reducible refine wg_ge ?_ | with_reducible refine wg_not ?_ | with_reducible refine wg_lenL ?_ | with_reducible refine wg_lenT ?_ | with_reducible refine wg_lenC ?_ | with_reducible refine wg_int ?_ | with_reducible refine wg_intB ?_ | with_reducible refine wg_abs ?_ | with_reducible refine wg_max2 ?_ | with_reducible refine wg_min2 ?_ | with_reducible refine wg_reprB ?_ | with_reducible refine wg_itL ?_ | with_reducible refine wg_itT ?_ | with_reducible refine wg_itC ?_ | with_reducible refine wg_itS ?_ | with_reducible refine wg_slL ?_ | with_reducible refine wg_slT ?_ | with_reducible refine wg_tupleL ?_ | with_reducible refine wg_tupleT ?_ | with_reducible refine wg_listL ?_ | with_reducible refine wg_listT ?_ | with_reducible refine wg_revL ?_ | with_reducible refine wg_revT ?_ | with_reducible refine wg_zipT ?_ | with_reducible refine wg_allM ?_ | with_reducible refine wg_anyM ?_ | with_reducible refine w_var (by with_unfolding_all rfl) ?_ | with_reducible refine wg_mul (Or.inr (by decide)) ?_ | with_reducible refine wg_mul (Or.inl (by decide)) ?_ | with_reducible refine wg_mod (by decide +kernel) ?_ | with_reducible refine wg_fdiv (by decide) ?_ | with_reducible refine wg_pow (by decide +kernel) ?_ | with_reducible refine wg_tup (by simp; done) ?_ | with_reducible refine wg_lst (by simp; done) ?_ | with_reducible refine w_dieSet (by decide) ?_ | with_reducible refine w_dieAt (by decide) (fun _ => ?_) | refine ⟨_, rfl, ?_⟩ | refine ⟨rfl, ?_⟩))
      exact wg_ixC e rfl
    · refine ⟨67 * k + 23, ?_⟩
      (repeat (first | with_reducible refine w_c2 ?_ | with_reducible refine w_c1 ?_ | with_reducible refine w_cA ?_ | with_reducible refine w_cons ?_ | with_reducible refine w_nil ?_ | with_reducible refine w_c ?_ | with_reducible refine w_call ?_ | with_reducible refine w_it ?_ | with_reducible refine w_rng1 ?_ | with_reducible refine w_rng2 ?_ | with_reducible refine w_m0 ?_ | with_reducible refine w_m1 ?_ | with_reducible refine w_sl ?_ | with_reducible refine w_part ?_ | with_reducible refine w_noP ?_ | with_reducible refine w_b ?_ | with_reducible refine w_notB ?_ | with_reducible refine w_if ?_ | with_reducible refine w_chain ?_ | with_reducible refine w_zip ?_ | with_reducible refine w_enum ?_ | with_reducible refine wg_add ?_ | with_reducible refine wg_sub ?_ | with_reducible refine wg_neg ?_ | with_reducible refine wg_lt ?_ | with_reducible refine wg_le ?_ | with_reducible refine wg_gt ?_ | with_reducible refine wg_ge ?_ | with_reducible refine wg_not ?_ | with_reducible refine wg_lenL ?_ | with_reducible refine wg_lenT ?_ | with_reducible refine wg_lenC ?_ | with_reducible refine wg_int ?_ | with_reducible refine wg_intB ?_ | with_reducible refine wg_abs ?_ | with_reducible refine wg_max2 ?_ | with_reducible refine wg_min2 ?_ | with_reducible refine wg_reprB ?_ | with_reducible refine wg_itL ?_ | with_reducible refine wg_itT ?_ | with_reducible refine wg_itC ?_ | with_reducible refine wg_itS ?_ | with_reducible refine wg_slL ?_ | with_reducible refine wg_slT ?_ | with_reducible refine wg_tupleL ?_ | with_reducible refine wg_tupleT ?_ | with_reducible refine wg_listL ?_ | with_reducible refine wg_listT ?_ | with_reducible refine wg_revL ?_ | with_reducible refine wg_revT ?_ | with_reducible refine wg_zipT ?_ | with_reducible refine wg_allM ?_ | with_reducible refine wg_anyM ?_ | with_reducible refine w_var (by with_unfolding_all rfl) ?_ | with_reducible refine wg_mul (Or.inr (by decide)) ?_ | with_reducible refine wg_mul (Or.inl (by decide)) ?_ | with_reducible refine wg_mod (by decide +kernel) ?_ | with_reducible refine wg_fdiv (by decide) ?_ | with_reducible refine wg_pow (by decide +kernel) ?_ | with_reducible refine wg_tup (by simp; done) ?_ | with_reducible refine wg_lst (by simp; done) ?_ | with_reducible refine w_dieSet (by decide) ?_ | with_reducible refine w_dieAt (by decide) (fun _ => ?_) | refine ⟨_, rfl, ?_⟩ | refine ⟨rfl, ?_⟩))
      refine ⟨fun h => absurd (of_decide_eq_true h) hk, fun _ => ?_⟩
      (repeat (first | with_reducible refine w_c2 ?_ | with_reducible refine w_c1 ?_ | with_reducible refine w_cA ?_ | with_reducible refine w_cons ?_ | with_reducible refine w_nil ?_ | with_reducible refine w_c ?_ | with_reducible refine w_call ?_ | with_reducible refine w_it ?_ | with_reducible refine w_rng1 ?_ | with_reducible refine w_rng2 ?_ | with_reducible refine w_m0 ?_ | with_reducible refine w_m1 ?_ | with_reducible refine w_sl ?_ | with_reducible refine w_part ?_ | with_reducible refine w_noP ?_ | with_reducible refine w_b ?_ | with_reducible refine w_notB ?_ | with_reducible refine w_if ?_ | with_reducible refine w_chain ?_ | with_reducible refine w_zip ?_ | with_reducible refine w_enum ?_ | with_reducible refine wg_add ?_ | with_reducible refine wg_sub ?_ | with_reducible refine wg_neg ?_ | with_reducible refine wg_lt ?_ | with_reducible refine wg_le ?_ | with_reducible refine wg_gt ?_ | with_reducible refine wg_ge ?_ | with_reducible refine wg_not ?_ | with_reducible refine wg_lenL ?_ | with_reducible refine wg_lenT ?_ | with_reducible refine wg_lenC ?_ | with_reducible refine wg_int ?_ | with_reducible refine wg_intB ?_ | with_reducible refine wg_abs ?_ | with_reducible refine wg_max2 ?_ | with_reducible refine wg_min2 ?_ | with_reducible refine wg_reprB ?_ | with_reducible refine wg_itL ?_ | with_reducible refine wg_itT ?_ | with_reducible refine wg_itC ?_ | with_reducible refine wg_itS ?_ | with_reducible refine wg_slL ?_ | with_reducible refine wg_slT ?_ | with_reducible refine wg_tupleL ?_ | with_reducible refine wg_tupleT ?_ | with_reducible refine wg_listL ?_ | with_reducible refine wg_listT ?_ | with_reducible refine wg_revL ?_ | with_reducible refine wg_revT ?_ | with_reducible refine wg_zipT ?_ | with_reducible refine wg_allM ?_ | with_reducible refine wg_anyM ?_ | with_reducible refine w_var (by with_unfolding_all rfl) ?_ | with_reducible refine wg_mul (Or.inr (by decide)) ?_ | with_reducible refine wg_mul (Or.inl (by decide)) ?_ | with_reducible refine wg_mod (by decide +kernel) ?_ | with_reducible refine wg_fdiv (by decide) ?_ | with_reducible refine wg_pow (by decide +kernel) ?_ | with_reducible refine wg_tup (by simp; done) ?_ | with_reducible refine wg_lst (by simp; done) ?_ | with_reducible refine w_dieSet (by decide) ?_ | with_reducible refine w_dieAt (by decide) (fun _ => ?_) | refine ⟨_, rfl, ?_⟩ | refine ⟨rfl, ?_⟩))
      rfl
  obtain ⟨v, hc⟩ := hc
  refine hc.imp (fun d hd => ?_) fun _ _ x => x
  subst hd
  refine wl_asg ?_
  (repeat (first | with_reducible refine w_c2 ?_ | with_reducible refine w_c1 ?_ | with_reducible refine w_cA ?_ | with_reducible refine w_cons ?_ | with_reducible refine w_nil ?_ | with_reducible refine w_c ?_ | with_reducible refine w_call ?_ | with_reducible refine w_it ?_ | with_reducible refine w_rng1 ?_ | with_reducible refine w_rng2 ?_ | with_reducible refine w_m0 ?_ | with_reducible refine w_m1 ?_ | with_reducible refine w_sl ?_ | with_reducible refine w_part ?_ | with_reducible refine w_noP ?_ | with_reducible refine w_b ?_ | with_reducible refine w_notB ?_ | with_reducible refine w_if ?_ | with_reducible refine w_chain ?_ | with_reducible refine w_zip ?_ | with_reducible refine w_enum ?_ | with_reducible refine wg_add ?_ | with_reducible refine wg_sub ?_ | with_reducible refine wg_neg ?_ | with_reducible refine wg_lt ?_ | with_reducible refine wg_le ?_ | with_reducible refine wg_gt ?_ | with_reducible refine wg_ge ?_ | with_reducible refine wg_not ?_ | with_reducible refine wg_lenL ?_ | with_reducible refine wg_lenT ?_ | with_reducible refine wg_lenC ?_ | with_reducible refine wg_int ?_ | with_reducible refine wg_intB ?_ | with_reducible refine wg_abs ?_ | with_reducible refine wg_max2 ?_ | with_reducible refine wg_min2 ?_ | with_reducible refine wg_reprB ?_ | with_reducible refine wg_itL ?_ | with_reducible refine wg_itT ?_ | with_reducible refine wg_itC ?_ | with_reducible refine wg_itS ?_ | with_reducible refine wg_slL ?_ | with_reducible refine wg_slT ?_ | with_reducible refine wg_tupleL ?_ | with_reducible refine wg_tupleT ?_ | with_reducible refine wg_listL ?_ | with_reducible refine wg_listT ?_ | with_reducible refine wg_revL ?_ | with_reducible refine wg_revT ?_ | with_reducible refine wg_zipT ?_ | with_reducible refine wg_allM ?_ | with_reducible refine wg_anyM ?_ | with_reducible refine w_var (by with_unfolding_all rfl) ?_ | with_reducible refine wg_mul (Or.inr (by decide)) ?_ | with_reducible refine wg_mul (Or.inl (by decide)) ?_ | with_reducible refine wg_mod (by decide +kernel) ?_ | with_reducible refine wg_fdiv (by decide) ?_ | with_reducible refine wg_pow (by decide +kernel) ?_ | with_reducible refine wg_tup (by simp; done) ?_ | with_reducible refine wg_lst (by simp; done) ?_ | with_reducible refine w_dieSet (by decide) ?_ | with_reducible refine w_dieAt (by decide) (fun _ => ?_) | refine ⟨_, rfl, ?_⟩ | refine ⟨rfl, ?_⟩))
  refine wl_asg ?_
  (repeat (first | with_reducible refine w_c2 ?_ | with_reducible refine w_c1 ?_ | with_reducible refine w_cA ?_ | with_reducible refine w_cons ?_ | with_reducible refine w_nil ?_ | with_reducible refine w_c ?_ | with_reducible refine w_call ?_ | with_reducible refine w_it ?_ | with_reducible refine w_rng1 ?_ | with_reducible refine w_rng2 ?_ | with_reducible refine w_m0 ?_ | with_reducible refine w_m1 ?_ | with_reducible refine w_sl ?_ | with_reducible refine w_part ?_ | with_reducible refine w_noP ?_ | with_reducible refine w_b ?_ | with_reducible refine w_notB ?_ | with_reducible refine w_if ?_ | with_reducible refine w_chain ?_ | with_reducible refine w_zip ?_ | with_reducible refine w_enum ?_ | with_reducible refine wg_add ?_ | with_reducible refine wg_sub ?_ | with_reducible refine wg_neg ?_ | with_reducible refine wg_lt ?_ | with_reducible refine wg_le ?_ | with_reducible refine wg_gt ?_ | with_reducible refine wg_ge ?_ | with_reducible refine wg_not ?_ | with_reducible refine wg_lenL ?_ | with_reducible refine wg_lenT ?_ | with_reducible refine wg_lenC ?_ | with_reducible refine wg_int ?_ | with_reducible refine wg_intB ?_ | with_reducible refine wg_abs ?_ | with_reducible refine wg_max2 ?_ | with_reducible refine wg_min2 ?_ | with_reducible refine wg_reprB ?_ | with_reducible refine wg_itL ?_ | with_reducible refine wg_itT ?_ | with_reducible refine wg_itC ?_ | with_reducible refine wg_itS ?_ | with_reducible refine wg_slL ?_ | with_reducible refine wg_slT ?_ | with_reducible refine wg_tupleL ?_ | with_reducible refine wg_tupleT ?_ | with_reducible refine wg_listL ?_ | with_reducible refine wg_listT ?_ | with_reducible refine wg_revL ?_ | with_reducible refine wg_revT ?_ | with_reducible refine wg_zipT ?_ | with_reducible refine wg_allM ?_ | with_reducible refine wg_anyM ?_ | with_reducible refine w_var (by with_unfolding_all rfl) ?_ | with_reducible refine wg_mul (Or.inr (by decide)) ?_ | with_reducible refine wg_mul (Or.inl (by decide)) ?_ | with_reducible refine wg_mod (by decide +kernel) ?_ | with_reducible refine wg_fdiv (by decide) ?_ | with_reducible refine wg_pow (by decide +kernel) ?_ | with_reducible refine wg_tup (by simp; done) ?_ | with_reducible refine wg_lst (by simp; done) ?_ | with_reducible refine w_dieSet (by decide) ?_ | with_reducible refine w_dieAt (by decide) (fun _ => ?_) | refine ⟨_, rfl, ?_⟩ | refine ⟨rfl, ?_⟩))
  refine wl_ret ?_
  (repeat (first | with_reducible refine w_c2 ?_ | with_reducible refine w_c1 ?_ | with_reducible refine w_cA ?_ | with_reducible refine w_cons ?_ | with_reducible refine w_nil ?_ | with_reducible refine w_c ?_ | with_reducible refine w_call ?_ | with_reducible refine w_it ?_ | with_reducible refine w_rng1 ?_ | with_reducible refine w_rng2 ?_ | with_reducible refine w_m0 ?_ | with_reducible refine w_m1 ?_ | with_reducible refine w_sl ?_ | with_reducible refine w_part ?_ | with_reducible refine w_noP ?_ | with_reducible refine w_b ?_ | with_reducible refine w_notB ?_ | with_reducible refine w_if ?_ | with_reducible refine w_chain ?_ | with_reducible refine w_zip ?_ | with_reducible refine w_enum ?_ | with_reducible refine wg_add ?_ | with_reducible refine wg_sub ?_ | with_reducible refine wg_neg ?_ | with_reducible refine wg_lt ?_ | with_reducible refine wg_le ?_ | with_reducible refine wg_gt ?_ | with_reducible refine wg_ge ?_ | with_reducible refine wg_not ?_ | with_reducible refine wg_lenL ?_ | with_reducible refine wg_lenT ?_ | with_reducible refine wg_lenC ?_ | with_reducible refine wg_int ?_ | with_reducible refine wg_intB ?_ | with_reducible refine wg_abs ?_ | with_reducible refine wg_max2 ?_ | with_reducible refine wg_min2 ?_ | with_reducible refine wg_reprB ?_ | with_reducible refine wg_itL ?_ | with_reducible refine wg_itT ?_ | with_reducible refine wg_itC ?_ | with_reducible refine wg_itS ?_ | with_reducible refine wg_slL ?_ | with_reducible refine wg_slT ?_ | with_reducible refine wg_tupleL ?_ | with_reducible refine wg_tupleT ?_ | with_reducible refine wg_listL ?_ | with_reducible refine wg_listT ?_ | with_reducible refine wg_revL ?_ | with_reducible refine wg_revT ?_ | with_reducible refine wg_zipT ?_ | with_reducible refine wg_allM ?_ | with_reducible refine wg_anyM ?_ | with_reducible refine w_var (by with_unfolding_all rfl) ?_ | with_reducible refine wg_mul (Or.inr (by decide)) ?_ | with_reducible refine wg_mul (Or.inl (by decide)) ?_ | with_reducible refine wg_mod (by decide +kernel) ?_ | with_reducible refine wg_fdiv (by decide) ?_ | with_reducible refine wg_pow (by decide +kernel) ?_ | with_reducible refine wg_tup (by simp; done) ?_ | with_reducible refine wg_lst (by simp; done) ?_ | with_reducible refine w_dieSet (by decide) ?_ | with_reducible refine w_dieAt (by decide) (fun _ => ?_) | refine ⟨_, rfl, ?_⟩ | refine ⟨rfl, ?_⟩))
  exact ⟨_, _, _, rfl⟩
theorem w_cast {n : Nat} {t : Int} {X : XP} (h0 : 0 < t) (h1 : t < 1073741824) : Wp (IsDie n) (F_law_cast [.mut n, .int t]) (fun d => ∃ r, d = .int r ∧ 0 ≤ r ∧ r < t) X := by
  refine w_def rfl ?_
  unfold b_law_cast
  (repeat (first | with_reducible refine ws_seq ?_ | with_reducible refine ws_asg ?_ | with_reducible refine ws_ret ?_ | with_reducible refine ws_if ?_ | with_reducible refine ws_next ?_ | with_reducible refine ws_retN ?_ | with_reducible refine ws_brk ?_ | with_reducible refine ws_cont ?_ | with_reducible refine ws_drop ?_ | with_reducible refine ws_setI ?_ | with_reducible refine ws_for ?_ | with_reducible refine ws_par ?_ | with_reducible refine ws_frz ?_ | with_reducible refine ws_parO ?_ | with_reducible refine ws_setOwn ?_ | with_reducible refine ⟨fun _ => ?_, fun z => absurd rfl z⟩ | refine And.intro rt_nx fun _ => ?_ | refine And.intro bk_nx fun _ => ?_ | refine And.intro ct_nx fun _ => ?_ | with_reducible refine w_c2 ?_ | with_reducible refine w_c1 ?_ | with_reducible refine w_cA ?_ | with_reducible refine w_cons ?_ | with_reducible refine w_nil ?_ | with_reducible refine w_c ?_ | with_reducible refine w_call ?_ | with_reducible refine w_it ?_ | with_reducible refine w_rng1 ?_ | with_reducible refine w_rng2 ?_ | with_reducible refine w_m0 ?_ | with_reducible refine w_m1 ?_ | with_reducible refine w_sl ?_ | with_reducible refine w_part ?_ | with_reducible refine w_noP ?_ | with_reducible refine w_b ?_ | with_reducible refine w_notB ?_ | with_reducible refine w_if ?_ | with_reducible refine w_chain ?_ | with_reducible refine w_zip ?_ | with_reducible refine w_enum ?_ | with_reducible refine wg_add ?_ | with_reducible refine wg_sub ?_ | with_reducible refine wg_neg ?_ | with_reducible refine wg_lt ?_ | with_reducible refine wg_le ?_ | with_reducible refine wg_gt ?_ | with_reducible refine wg_ge ?_ | with_reducible refine wg_not ?_ | with_reducible refine wg_lenL ?_ | with_reducible refine wg_lenT ?_ | with_reducible refine wg_lenC ?_ | with_reducible refine wg_int ?_ | with_reducible refine wg_intB ?_ | with_reducible refine wg_abs ?_ | with_reducible refine wg_max2 ?_ | with_reducible refine wg_min2 ?_ | with_reducible refine wg_reprB ?_ | with_reducible refine wg_itL ?_ | with_reducible refine wg_itT ?_ | with_reducible refine wg_itC ?_ | with_reducible refine wg_itS ?_ | with_reducible refine wg_slL ?_ | with_reducible refine wg_slT ?_ | with_reducible refine wg_tupleL ?_ | with_reducible refine wg_tupleT ?_ | with_reducible refine wg_listL ?_ | with_reducible refine wg_listT ?_ | with_reducible refine wg_revL ?_ | with_reducible refine wg_revT ?_ | with_reducible refine wg_zipT ?_ | with_reducible refine wg_allM ?_ | with_reducible refine wg_anyM ?_ | with_reducible refine w_var (by with_unfolding_all rfl) ?_ | with_reducible refine wg_mul (Or.inr (by decide)) ?_ | with_reducible refine wg_mul (Or.inl (by decide)) ?_ | with_reducible refine wg_mod (by decide +kernel) ?_ | with_reducible refine wg_fdiv (by decide) ?_ | with_reducible refine wg_pow (by decide +kernel) ?_ | with_reducible refine wg_tup (by simp; done) ?_ | with_reducible refine wg_lst (by simp; done) ?_ | with_reducible refine w_dieSet (by decide) ?_ | with_reducible refine w_dieAt (by decide) (fun _ => ?_) | refine ⟨_, rfl, ?_⟩ | refine ⟨rfl, ?_⟩))
  refine ⟨fun _ => ?_, fun _ => ?_⟩
  · (repeat (first | with_reducible refine ws_seq ?_ | with_reducible refine ws_asg ?_ | with_reducible refine ws_ret ?_ | with_reducible refine ws_if ?_ | with_reducible refine ws_next ?_ | with_reducible refine ws_retN ?_ | with_reducible refine ws_brk ?_ | with_reducible refine ws_cont ?_ | with_reducible refine ws_drop ?_ | with_reducible refine ws_setI ?_ | with_reducible refine ws_for ?_ | with_reducible refine ws_par ?_ | with_reducible refine ws_frz ?_ | with_reducible refine ws_parO ?_ | with_reducible refine ws_setOwn ?_ | with_reducible refine ⟨fun _ => ?_, fun z => absurd rfl z⟩ | refine And.intro rt_nx fun _ => ?_ | refine And.intro bk_nx fun _ => ?_ | refine And.intro ct_nx fun _ => ?_ | with_reducible refine w_c2 ?_ | with_reducible refine w_c1 ?_ | with_reducible refine w_cA ?_ | with_reducible refine w_cons ?_ | with_reducible refine w_nil ?_ | with_reducible refine w_c ?_ | with_reducible refine w_call ?_ | with_reducible refine w_it ?_ | with_reducible refine w_rng1 ?_ | with_reducible refine w_rng2 ?_ | with_reducible refine w_m0 ?_ | with_reducible refine w_m1 ?_ | with_reducible refine w_sl ?_ | with_reducible refine w_part ?_ | with_reducible refine w_noP ?_ | with_reducible refine w_b ?_ | with_reducible refine w_notB ?_ | with_reducible refine w_if ?_ | with_reducible refine w_chain ?_ | with_reducible refine w_zip ?_ | with_reducible refine w_enum ?_ | with_reducible refine wg_add ?_ | with_reducible refine wg_sub ?_ | with_reducible refine wg_neg ?_ | with_reducible refine wg_lt ?_ | with_reducible refine wg_le ?_ | with_reducible refine wg_gt ?_ | with_reducible refine wg_ge ?_ | with_reducible refine wg_not ?_ | with_reducible refine wg_lenL ?_ | with_reducible refine wg_lenT ?_ | with_reducible refine wg_lenC ?_ | with_reducible refine wg_int ?_ | with_reducible refine wg_intB ?_ | with_reducible refine wg_abs ?_ | with_reducible refine wg_max2 ?_ | with_reducible refine wg_min2 ?_ | with_reducible refine wg_reprB ?_ | with_reducible refine wg_itL ?_ | with_reducible refine wg_itT ?_ | with_reducible refine wg_itC ?_ | with_reducible refine wg_itS ?_ | with_reducible refine wg_slL ?_ | with_reducible refine wg_slT ?_ | with_reducible refine wg_tupleL ?_ | with_reducible refine wg_tupleT ?_ | with_reducible refine wg_listL ?_ | with_reducible refine wg_listT ?_ | with_reducible refine wg_revL ?_ | with_reducible refine wg_revT ?_ | with_reducible refine wg_zipT ?_ | with_reducible refine wg_allM ?_ | with_reducible refine wg_anyM ?_ | with_reducible refine w_var (by with_unfolding_all rfl) ?_ | with_reducible refine wg_mul (Or.inr (by decide)) ?_ | with_reducible refine wg_mul (Or.inl (by decide)) ?_ | with_reducible refine wg_mod (by decide +kernel) ?_ | with_reducible refine wg_fdiv (by decide) ?_ | with_reducible refine wg_pow (by decide +kernel) ?_ | with_reducible refine wg_tup (by simp; done) ?_ | with_reducible refine wg_lst (by simp; done) ?_ | with_reducible refine w_dieSet (by decide) ?_ | with_reducible refine w_dieAt (by decide) (fun _ => ?_) | refine ⟨_, rfl, ?_⟩ | refine ⟨rfl, ?_⟩))
    refine wg_mod h0 ?_
    (repeat (first | with_reducible refine ws_seq ?_ | with_reducible refine ws_asg ?_ | with_reducible refine ws_ret ?_ | with_reducible refine ws_if ?_ | with_reducible refine ws_next ?_ | with_reducible refine ws_retN ?_ | with_reducible refine ws_brk ?_ | with_reducible refine ws_cont ?_ | with_reducible refine ws_drop ?_ | with_reducible refine ws_setI ?_ | with_reducible refine ws_for ?_ | with_reducible refine ws_par ?_ | with_reducible refine ws_frz ?_ | with_reducible refine ws_parO ?_ | with_reducible refine ws_setOwn ?_ | with_reducible refine ⟨fun _ => ?_, fun z => absurd rfl z⟩ | refine And.intro rt_nx fun _ => ?_ | refine And.intro bk_nx fun _ => ?_ | refine And.intro ct_nx fun _ => ?_ | with_reducible refine w_c2 ?_ | with_reducible refine w_c1 ?_ | with_reducible refine w_cA ?_ | with_reducible refine w_cons ?_ | with_reducible refine w_nil ?_ | with_reducible refine w_c ?_ | with_reducible refine w_call ?_ | with_reducible refine w_it ?_ | with_reducible refine w_rng1 ?_ | with_reducible refine w_rng2 ?_ | with_reducible refine w_m0 ?_ | with_reducible refine w_m1 ?_ | with_reducible refine w_sl ?_ | with_reducible refine w_part ?_ | with_reducible refine w_noP ?_ | with_reducible refine w_b ?_ | with_reducible refine w_notB ?_ | with_reducible refine w_if ?_ | with_reducible refine w_chain ?_ | with_reducible refine w_zip ?_ | with_reducible refine w_enum ?_ | with_reducible refine wg_add ?_ | with_reducible refine wg_sub ?_ | with_reducible refine wg_neg ?_ | with_reducible refine wg_lt ?_ | with_reducible refine wg_le ?_ | with_reducible refine wg_gt ?_ | with_reducible refine wg_ge ?_ | with_reducible refine wg_not ?_ | with_reducible refine wg_lenL ?_ | with_reducible refine wg_lenT ?_ | with_reducible refine wg_lenC ?_ | with_reducible refine wg_int ?_ | with_reducible refine wg_intB ?_ | with_reducible refine wg_abs ?_ | with_reducible refine wg_max2 ?_ | with_reducible refine wg_min2 ?_ | with_reducible refine wg_reprB ?_ | with_reducible refine wg_itL ?_ | with_reducible refine wg_itT ?_ | with_reducible refine wg_itC ?_ | with_reducible refine wg_itS ?_ | with_reducible refine wg_slL ?_ | with_reducible refine wg_slT ?_ | with_reducible refine wg_tupleL ?_ | with_reducible refine wg_tupleT ?_ | with_reducible refine wg_listL ?_ | with_reducible refine wg_listT ?_ | with_reducible refine wg_revL ?_ | with_reducible refine wg_revT ?_ | with_reducible refine wg_zipT ?_ | with_reducible refine wg_allM ?_ | with_reducible refine wg_anyM ?_ | with_reducible refine w_var (by with_unfolding_all rfl) ?_ | with_reducible refine wg_mul (Or.inr (by decide)) ?_ | with_reducible refine wg_mul (Or.inl (by decide)) ?_ | with_reducible refine wg_mod (by decide +kernel) ?_ | with_reducible refine wg_fdiv (by decide) ?_ | with_reducible refine wg_pow (by decide +kernel) ?_ | with_reducible refine wg_tup (by simp; done) ?_ | with_reducible refine wg_lst (by simp; done) ?_ | with_reducible refine w_dieSet (by decide) ?_ | with_reducible refine w_dieAt (by decide) (fun _ => ?_) | refine ⟨_, rfl, ?_⟩ | refine ⟨rfl, ?_⟩))
    refine wg_fdiv ⟨h0, h1⟩ ?_
    (repeat (first | with_reducible refine ws_seq ?_ | with_reducible refine ws_asg ?_ | with_reducible refine ws_ret ?_ | with_reducible refine ws_if ?_ | with_reducible refine ws_next ?_ | with_reducible refine ws_retN ?_ | with_reducible refine ws_brk ?_ | with_reducible refine ws_cont ?_ | with_reducible refine ws_drop ?_ | with_reducible refine ws_setI ?_ | with_reducible refine ws_for ?_ | with_reducible refine ws_par ?_ | with_reducible refine ws_frz ?_ | with_reducible refine ws_parO ?_ | with_reducible refine ws_setOwn ?_ | with_reducible refine ⟨fun _ => ?_, fun z => absurd rfl z⟩ | refine And.intro rt_nx fun _ => ?_ | refine And.intro bk_nx fun _ => ?_ | refine And.intro ct_nx fun _ => ?_ | with_reducible refine w_c2 ?_ | with_reducible refine w_c1 ?_ | with_reducible refine w_cA ?_ | with_reducible refine w_cons ?_ | with_reducible refine w_nil ?_ | with_reducible refine w_c ?_ | with_reducible refine w_call ?_ | with_reducible refine w_it ?_ | with_reducible refine w_rng1 ?_ | with_reducible refine w_rng2 ?_ | with_reducible refine w_m0 ?_ | with_reducible refine w_m1 ?_ | with_reducible refine w_sl ?_ | with_reducible refine w_part ?_ | with_reducible refine w_noP ?_ | with_reducible refine w_b ?_ | with_reducible refine w_notB ?_ | with_reducible refine w_if ?_ | with_reducible refine w_chain ?_ | with_reducible refine w_zip ?_ | with_reducible refine w_enum ?_ | with_reducible refine wg_add ?_ | with_reducible refine wg_sub ?_ | with_reducible refine wg_neg ?_ | with_reducible refine wg_lt ?_ | with_reducible refine wg_le ?_ | with_reducible refine wg_gt ?_ | with_reducible refine wg_ge ?_ | with_reducible refine wg_not ?_ | with_reducible refine wg_lenL ?_ | with_reducible refine wg_lenT ?_ | with_reducible refine wg_lenC ?_ | with_reducible refine wg_int ?_ | with_reducible refine wg_intB ?_ | with_reducible refine wg_abs ?_ | with_reducible refine wg_max2 ?_ | with_reducible refine wg_min2 ?_ | with_reducible refine wg_reprB ?_ | with_reducible refine wg_itL ?_ | with_reducible refine wg_itT ?_ | with_reducible refine wg_itC ?_ | with_reducible refine wg_itS ?_ | with_reducible refine wg_slL ?_ | with_reducible refine wg_slT ?_ | with_reducible refine wg_tupleL ?_ | with_reducible refine wg_tupleT ?_ | with_reducible refine wg_listL ?_ | with_reducible refine wg_listT ?_ | with_reducible refine wg_revL ?_ | with_reducible refine wg_revT ?_ | with_reducible refine wg_zipT ?_ | with_reducible refine wg_allM ?_ | with_reducible refine wg_anyM ?_ | with_reducible refine w_var (by with_unfolding_all rfl) ?_ | with_reducible refine wg_mul (Or.inr (by decide)) ?_ | with_reducible refine wg_mul (Or.inl (by decide)) ?_ | with_reducible refine wg_mod (by decide +kernel) ?_ | with_reducible refine wg_fdiv (by decide) ?_ | with_reducible refine wg_pow (by decide +kernel) ?_ | with_reducible refine wg_tup (by simp; done) ?_ | with_reducible refine wg_lst (by simp; done) ?_ | with_reducible refine w_dieSet (by decide) ?_ | with_reducible refine w_dieAt (by decide) (fun _ => ?_) | refine ⟨_, rfl, ?_⟩ | refine ⟨rfl, ?_⟩))
    exact ⟨Int.emod_nonneg _ (by omega), Int.emod_lt_of_pos _ h0⟩
  · (repeat (first | with_reducible refine ws_seq ?_ | with_reducible refine ws_asg ?_ | with_reducible refine ws_ret ?_ | with_reducible refine ws_if ?_ | with_reducible refine ws_next ?_ | with_reducible refine ws_retN ?_ | with_reducible refine ws_brk ?_ | with_reducible refine ws_cont ?_ | with_reducible refine ws_drop ?_ | with_reducible refine ws_setI ?_ | with_reducible refine ws_for ?_ | with_reducible refine ws_par ?_ | with_reducible refine ws_frz ?_ | with_reducible refine ws_parO ?_ | with_reducible refine ws_setOwn ?_ | with_reducible refine ⟨fun _ => ?_, fun z => absurd rfl z⟩ | refine And.intro rt_nx fun _ => ?_ | refine And.intro bk_nx fun _ => ?_ | refine And.intro ct_nx fun _ => ?_ | with_reducible refine w_c2 ?_ | with_reducible refine w_c1 ?_ | with_reducible refine w_cA ?_ | with_reducible refine w_cons ?_ | with_reducible refine w_nil ?_ | with_reducible refine w_c ?_ | with_reducible refine w_call ?_ | with_reducible refine w_it ?_ | with_reducible refine w_rng1 ?_ | with_reducible refine w_rng2 ?_ | with_reducible refine w_m0 ?_ | with_reducible refine w_m1 ?_ | with_reducible refine w_sl ?_ | with_reducible refine w_part ?_ | with_reducible refine w_noP ?_ | with_reducible refine w_b ?_ | with_reducible refine w_notB ?_ | with_reducible refine w_if ?_ | with_reducible refine w_chain ?_ | with_reducible refine w_zip ?_ | with_reducible refine w_enum ?_ | with_reducible refine wg_add ?_ | with_reducible refine wg_sub ?_ | with_reducible refine wg_neg ?_ | with_reducible refine wg_lt ?_ | with_reducible refine wg_le ?_ | with_reducible refine wg_gt ?_ | with_reducible refine wg_ge ?_ | with_reducible refine wg_not ?_ | with_reducible refine wg_lenL ?_ | with_reducible refine wg_lenT ?_ | with_reducible refine wg_lenC ?_ | with_reducible refine wg_int ?_ | with_reducible refine wg_intB ?_ | with_reducible refine wg_abs ?_ | with_reducible refine wg_max2 ?_ | with_reducible refine wg_min2 ?_ | with_reducible refine wg_reprB ?_ | with_reducible refine wg_itL ?_ | with_reducible refine wg_itT ?_ | with_reducible refine wg_itC ?_ | with_reducible refine wg_itS ?_ | with_reducible refine wg_slL ?_ | with_reducible refine wg_slT ?_ | with_reducible refine wg_tupleL ?_ | with_reducible refine wg_tupleT ?_ | with_reducible refine wg_listL ?_ | with_reducible refine wg_listT ?_ | with_reducible refine wg_revL ?_ | with_reducible refine wg_revT ?_ | with_reducible refine wg_zipT ?_ | with_reducible refine wg_allM ?_ | with_reducible refine wg_anyM ?_ | with_reducible refine w_var (by with_unfolding_all rfl) ?_ | with_reducible refine wg_mul (Or.inr (by decide)) ?_ | with_reducible refine wg_mul (Or.inl (by decide)) ?_ | with_reducible refine wg_mod (by decide +kernel) ?_ | with_reducible refine wg_fdiv (by decide) ?_ | with_reducible refine wg_pow (by decide +kernel) ?_ | with_reducible refine wg_tup (by simp; done) ?_ | with_reducible refine wg_lst (by simp; done) ?_ | with_reducible refine w_dieSet (by decide) ?_ | with_reducible refine w_dieAt (by decide) (fun _ => ?_) | refine ⟨_, rfl, ?_⟩ | refine ⟨rfl, ?_⟩))
    refine wg_mul (Or.inl ⟨by omega, by omega⟩) ?_
    (repeat (first | with_reducible refine ws_seq ?_ | with_reducible refine ws_asg ?_ | with_reducible refine ws_ret ?_ | with_reducible refine ws_if ?_ | with_reducible refine ws_next ?_ | with_reducible refine ws_retN ?_ | with_reducible refine ws_brk ?_ | with_reducible refine ws_cont ?_ | with_reducible refine ws_drop ?_ | with_reducible refine ws_setI ?_ | with_reducible refine ws_for ?_ | with_reducible refine ws_par ?_ | with_reducible refine ws_frz ?_ | with_reducible refine ws_parO ?_ | with_reducible refine ws_setOwn ?_ | with_reducible refine ⟨fun _ => ?_, fun z => absurd rfl z⟩ | refine And.intro rt_nx fun _ => ?_ | refine And.intro bk_nx fun _ => ?_ | refine And.intro ct_nx fun _ => ?_ | with_reducible refine w_c2 ?_ | with_reducible refine w_c1 ?_ | with_reducible refine w_cA ?_ | with_reducible refine w_cons ?_ | with_reducible refine w_nil ?_ | with_reducible refine w_c ?_ | with_reducible refine w_call ?_ | with_reducible refine w_it ?_ | with_reducible refine w_rng1 ?_ | with_reducible refine w_rng2 ?_ | with_reducible refine w_m0 ?_ | with_reducible refine w_m1 ?_ | with_reducible refine w_sl ?_ | with_reducible refine w_part ?_ | with_reducible refine w_noP ?_ | with_reducible refine w_b ?_ | with_reducible refine w_notB ?_ | with_reducible refine w_if ?_ | with_reducible refine w_chain ?_ | with_reducible refine w_zip ?_ | with_reducible refine w_enum ?_ | with_reducible refine wg_add ?_ | with_reducible refine wg_sub ?_ | with_reducible refine wg_neg ?_ | with_reducible refine wg_lt ?_ | with_reducible refine wg_le ?_ | with_reducible refine wg_gt ?_ | with_reducible refine wg_ge ?_ | with_reducible refine wg_not ?_ | with_reducible refine wg_lenL ?_ | with_reducible refine wg_lenT ?_ | with_reducible refine wg_lenC ?_ | with_reducible refine wg_int ?_ | with_reducible refine wg_intB ?_ | with_reducible refine wg_abs ?_ | with_reducible refine wg_max2 ?_ | with_reducible refine wg_min2 ?_ | with_reducible refine wg_reprB ?_ | with_reducible refine wg_itL ?_ | with_reducible refine wg_itT ?_ | with_reducible refine wg_itC ?_ | with_reducible refine wg_itS ?_ | with_reducible refine wg_slL ?_ | with_reducible refine wg_slT ?_ | with_reducible refine wg_tupleL ?_ | with_reducible refine wg_tupleT ?_ | with_reducible refine wg_listL ?_ | with_reducible refine wg_listT ?_ | with_reducible refine wg_revL ?_ | with_reducible refine wg_revT ?_ | with_reducible refine wg_zipT ?_ | with_reducible refine wg_allM ?_ | with_reducible refine wg_anyM ?_ | with_reducible refine w_var (by with_unfolding_all rfl) ?_ | with_reducible refine wg_mul (Or.inr (by decide)) ?_ | with_reducible refine wg_mul (Or.inl (by decide)) ?_ | with_reducible refine wg_mod (by decide +kernel) ?_ | with_reducible refine wg_fdiv (by decide) ?_ | with_reducible refine wg_pow (by decide +kernel) ?_ | with_reducible refine wg_tup (by simp; done) ?_ | with_reducible refine wg_lst (by simp; done) ?_ | with_reducible refine w_dieSet (by decide) ?_ | with_reducible refine w_dieAt (by decide) (fun _ => ?_) | refine ⟨_, rfl, ?_⟩ | refine ⟨rfl, ?_⟩))
    refine wg_mul (Or.inl ⟨by omega, by omega⟩) ?_
    (repeat (first | with_reducible refine ws_seq ?_ | with_reducible refine ws_asg ?_ | with_reducible refine ws_ret ?_ | with_reducible refine ws_if ?_ | with_reducible refine ws_next ?_ | with_reducible refine ws_retN ?_ | with_reducible refine ws_brk ?_ | with_reducible refine ws_cont ?_ | with_reducible refine ws_drop ?_ | with_reducible refine ws_setI ?_ | with_reducible refine ws_for ?_ | with_reducible refine ws_par ?_ | with_reducible refine ws_frz ?_ | with_reducible refine ws_parO ?_ | with_reducible refine ws_setOwn ?_ | with_reducible refine ⟨fun _ => ?_, fun z => absurd rfl z⟩ | refine And.intro rt_nx fun _ => ?_ | refine And.intro bk_nx fun _ => ?_ | refine And.intro ct_nx fun _ => ?_ | with_reducible refine w_c2 ?_ | with_reducible refine w_c1 ?_ | with_reducible refine w_cA ?_ | with_reducible refine w_cons ?_ | with_reducible refine w_nil ?_ | with_reducible refine w_c ?_ | with_reducible refine w_call ?_ | with_reducible refine w_it ?_ | with_reducible refine w_rng1 ?_ | with_reducible refine w_rng2 ?_ | with_reducible refine w_m0 ?_ | with_reducible refine w_m1 ?_ | with_reducible refine w_sl ?_ | with_reducible refine w_part ?_ | with_reducible refine w_noP ?_ | with_reducible refine w_b ?_ | with_reducible refine w_notB ?_ | with_reducible refine w_if ?_ | with_reducible refine w_chain ?_ | with_reducible refine w_zip ?_ | with_reducible refine w_enum ?_ | with_reducible refine wg_add ?_ | with_reducible refine wg_sub ?_ | with_reducible refine wg_neg ?_ | with_reducible refine wg_lt ?_ | with_reducible refine wg_le ?_ | with_reducible refine wg_gt ?_ | with_reducible refine wg_ge ?_ | with_reducible refine wg_not ?_ | with_reducible refine wg_lenL ?_ | with_reducible refine wg_lenT ?_ | with_reducible refine wg_lenC ?_ | with_reducible refine wg_int ?_ | with_reducible refine wg_intB ?_ | with_reducible refine wg_abs ?_ | with_reducible refine wg_max2 ?_ | with_reducible refine wg_min2 ?_ | with_reducible refine wg_reprB ?_ | with_reducible refine wg_itL ?_ | with_reducible refine wg_itT ?_ | with_reducible refine wg_itC ?_ | with_reducible refine wg_itS ?_ | with_reducible refine wg_slL ?_ | with_reducible refine wg_slT ?_ | with_reducible refine wg_tupleL ?_ | with_reducible refine wg_tupleT ?_ | with_reducible refine wg_listL ?_ | with_reducible refine wg_listT ?_ | with_reducible refine wg_revL ?_ | with_reducible refine wg_revT ?_ | with_reducible refine wg_zipT ?_ | with_reducible refine wg_allM ?_ | with_reducible refine wg_anyM ?_ | with_reducible refine w_var (by with_unfolding_all rfl) ?_ | with_reducible refine wg_mul (Or.inr (by decide)) ?_ | with_reducible refine wg_mul (Or.inl (by decide)) ?_ | with_reducible refine wg_mod (by decide +kernel) ?_ | with_reducible refine wg_fdiv (by decide) ?_ | with_reducible refine wg_pow (by decide +kernel) ?_ | with_reducible refine wg_tup (by simp; done) ?_ | with_reducible refine wg_lst (by simp; done) ?_ | with_reducible refine w_dieSet (by decide) ?_ | with_reducible refine w_dieAt (by decide) (fun _ => ?_) | refine ⟨_, rfl, ?_⟩ | refine ⟨rfl, ?_⟩))
    refine wg_mod h0 ?_
    exact ⟨_, rfl, Int.emod_nonneg _ (by omega), Int.emod_lt_of_pos _ h0⟩
theorem w_pickL {n : Nat} {xs : List D} {X : XP} (h0 : 0 < xs.length) (h1 : xs.length < 1073741824) : Wp (IsDie n) (F_law_pick [.mut n, .lst xs]) (fun d => d ∈ xs) X := by
  refine w_def rfl ?_
  unfold b_law_pick
  (repeat (first | with_reducible refine ws_seq ?_ | with_reducible refine ws_asg ?_ | with_reducible refine ws_ret ?_ | with_reducible refine ws_if ?_ | with_reducible refine ws_next ?_ | with_reducible refine ws_retN ?_ | with_reducible refine ws_brk ?_ | with_reducible refine ws_cont ?_ | with_reducible refine ws_drop ?_ | with_reducible refine ws_setI ?_ | with_reducible refine ws_for ?_ | with_reducible refine ws_par ?_ | with_reducible refine ws_frz ?_ | with_reducible refine ws_parO ?_ | with_reducible refine ws_setOwn ?_ | with_reducible refine ⟨fun _ => ?_, fun z => absurd rfl z⟩ | refine And.intro rt_nx fun _ => ?_ | refine And.intro bk_nx fun _ => ?_ | refine And.intro ct_nx fun _ => ?_ | with_reducible refine w_c2 ?_ | with_reducible refine w_c1 ?_ | with_reducible refine w_cA ?_ | with_reducible refine w_cons ?_ | with_reducible refine w_nil ?_ | with_reducible refine w_c ?_ | with_reducible refine w_call ?_ | with_reducible refine w_it ?_ | with_reducible refine w_rng1 ?_ | with_reducible refine w_rng2 ?_ | with_reducible refine w_m0 ?_ | with_reducible refine w_m1 ?_ | with_reducible refine w_sl ?_ | with_reducible refine w_part ?_ | with_reducible refine w_noP ?_ | with_reducible refine w_b ?_ | with_reducible refine w_notB ?_ | with_reducible refine w_if ?_ | with_reducible refine w_chain ?_ | with_reducible refine w_zip ?_ | with_reducible refine w_enum ?_ | with_reducible refine wg_add ?_ | with_reducible refine wg_sub ?_ | with_reducible refine wg_neg ?_ | with_reducible refine wg_lt ?_ | with_reducible refine wg_le ?_ | with_reducible refine wg_gt ?_ | with_reducible refine wg_ge ?_ | with_reducible refine wg_not ?_ | with_reducible refine wg_lenL ?_ | with_reducible refine wg_lenT ?_ | with_reducible refine wg_lenC ?_ | with_reducible refine wg_int ?_ | with_reducible refine wg_intB ?_ | with_reducible refine wg_abs ?_ | with_reducible refine wg_max2 ?_ | with_reducible refine wg_min2 ?_ | with_reducible refine wg_reprB ?_ | with_reducible refine wg_itL ?_ | with_reducible refine wg_itT ?_ | with_reducible refine wg_itC ?_ | with_reducible refine wg_itS ?_ | with_reducible refine wg_slL ?_ | with_reducible refine wg_slT ?_ | with_reducible refine wg_tupleL ?_ | with_reducible refine wg_tupleT ?_ | with_reducible refine wg_listL ?_ | with_reducible refine wg_listT ?_ | with_reducible refine wg_revL ?_ | with_reducible refine wg_revT ?_ | with_reducible refine wg_zipT ?_ | with_reducible refine wg_allM ?_ | with_reducible refine wg_anyM ?_ | with_reducible refine w_var (by with_unfolding_all rfl) ?_ | with_reducible refine wg_mul (Or.inr (by decide)) ?_ | with_reducible refine wg_mul (Or.inl (by decide)) ?_ | with_reducible refine wg_mod (by decide +kernel) ?_ | with_reducible refine wg_fdiv (by decide) ?_ | with_reducible refine wg_pow (by decide +kernel) ?_ | with_reducible refine wg_tup (by simp; done) ?_ | with_reducible refine wg_lst (by simp; done) ?_ | with_reducible refine w_dieSet (by decide) ?_ | with_reducible refine w_dieAt (by decide) (fun _ => ?_) | refine ⟨_, rfl, ?_⟩ | refine ⟨rfl, ?_⟩))
  refine (w_cast (by omega) (by omega)).imp (fun d ⟨r, e, a, b⟩ => ?_) fun _ _ x => x
  subst e
  obtain ⟨d, e, e2⟩ := at_some (xs := xs) a (by omega)
  exact wg_ixL e (List.mem_of_getElem? e2)
theorem w_pickT {n : Nat} {xs : List D} {X : XP} (h0 : 0 < xs.length) (h1 : xs.length < 1073741824) : Wp (IsDie n) (F_law_pick [.mut n, .tup xs]) (fun d => d ∈ xs) X := by
  refine w_def rfl ?_
  unfold b_law_pick
  (repeat (first | with_reducible refine ws_seq ?_ | with_reducible refine ws_asg ?_ | with_reducible refine ws_ret ?_ | with_reducible refine ws_if ?_ | with_reducible refine ws_next ?_ | with_reducible refine ws_retN ?_ | with_reducible refine ws_brk ?_ | with_reducible refine ws_cont ?_ | with_reducible refine ws_drop ?_ | with_reducible refine ws_setI ?_ | with_reducible refine ws_for ?_ | with_reducible refine ws_par ?_ | with_reducible refine ws_frz ?_ | with_reducible refine ws_parO ?_ | with_reducible refine ws_setOwn ?_ | with_reducible refine ⟨fun _ => ?_, fun z => absurd rfl z⟩ | refine And.intro rt_nx fun _ => ?_ | refine And.intro bk_nx fun _ => ?_ | refine And.intro ct_nx fun _ => ?_ | with_reducible refine w_c2 ?_ | with_reducible refine w_c1 ?_ | with_reducible refine w_cA ?_ | with_reducible refine w_cons ?_ | with_reducible refine w_nil ?_ | with_reducible refine w_c ?_ | with_reducible refine w_call ?_ | with_reducible refine w_it ?_ | with_reducible refine w_rng1 ?_ | with_reducible refine w_rng2 ?_ | with_reducible refine w_m0 ?_ | with_reducible refine w_m1 ?_ | with_reducible refine w_sl ?_ | with_reducible refine w_part ?_ | with_reducible refine w_noP ?_ | with_reducible refine w_b ?_ | with_reducible refine w_notB ?_ | with_reducible refine w_if ?_ | with_reducible refine w_chain ?_ | with_reducible refine w_zip ?_ | with_reducible refine w_enum ?_ | with_reducible refine wg_add ?_ | with_reducible refine wg_sub ?_ | with_reducible refine wg_neg ?_ | with_reducible refine wg_lt ?_ | with_reducible refine wg_le ?_ | with_reducible refine wg_gt ?_ | with_reducible refine wg_ge ?_ | with_reducible refine wg_not ?_ | with_reducible refine wg_lenL ?_ | with_reducible refine wg_lenT ?_ | with_reducible refine wg_lenC ?_ | with_reducible refine wg_int ?_ | with_reducible refine wg_intB ?_ | with_reducible refine wg_abs ?_ | with_reducible refine wg_max2 ?_ | with_reducible refine wg_min2 ?_ | with_reducible refine wg_reprB ?_ | with_reducible refine wg_itL ?_ | with_reducible refine wg_itT ?_ | with_reducible refine wg_itC ?_ | with_reducible refine wg_itS ?_ | with_reducible refine wg_slL ?_ | with_reducible refine wg_slT ?_ | with_reducible refine wg_tupleL ?_ | with_reducible refine wg_tupleT ?_ | with_reducible refine wg_listL ?_ | with_reducible refine wg_listT ?_ | with_reducible refine wg_revL ?_ | with_reducible refine wg_revT ?_ | with_reducible refine wg_zipT ?_ | with_reducible refine wg_allM ?_ | with_reducible refine wg_anyM ?_ | with_reducible refine w_var (by with_unfolding_all rfl) ?_ | with_reducible refine wg_mul (Or.inr (by decide)) ?_ | with_reducible refine wg_mul (Or.inl (by decide)) ?_ | with_reducible refine wg_mod (by decide +kernel) ?_ | with_reducible refine wg_fdiv (by decide) ?_ | with_reducible refine wg_pow (by decide +kernel) ?_ | with_reducible refine wg_tup (by simp; done) ?_ | with_reducible refine wg_lst (by simp; done) ?_ | with_reducible refine w_dieSet (by decide) ?_ | with_reducible refine w_dieAt (by decide) (fun _ => ?_) | refine ⟨_, rfl, ?_⟩ | refine ⟨rfl, ?_⟩))
  refine (w_cast (by omega) (by omega)).imp (fun d ⟨r, e, a, b⟩ => ?_) fun _ _ x => x
  subst e
  obtain ⟨d, e, e2⟩ := at_some (xs := xs) a (by omega)
  exact wg_ixT e (List.mem_of_getElem? e2)
end K03
namespace K03
open PySem PySem.Spec PyProof.Rows L2 DN KB
section
variable {I : Store → Prop} {X : XP}
theorem w_is_integer {d : D} (h : Ty d) : Wp I (F_is_integer [d]) (fun r => r = .bl (isInt d)) X := by
  refine w_def rfl ?_
  unfold b_is_integer
  (repeat (first | with_reducible refine ws_seq ?_ | with_reducible refine ws_asg ?_ | with_reducible refine ws_ret ?_ | with_reducible refine ws_if ?_ | with_reducible refine ws_next ?_ | with_reducible refine ws_retN ?_ | with_reducible refine ws_brk ?_ | with_reducible refine ws_cont ?_ | with_reducible refine ws_drop ?_ | with_reducible refine ws_setI ?_ | with_reducible refine ws_for ?_ | with_reducible refine ws_par ?_ | with_reducible refine ws_frz ?_ | with_reducible refine ws_parO ?_ | with_reducible refine ws_setOwn ?_ | with_reducible refine ⟨fun _ => ?_, fun z => absurd rfl z⟩ | refine And.intro rt_nx fun _ => ?_ | refine And.intro bk_nx fun _ => ?_ | refine And.intro ct_nx fun _ => ?_ | with_reducible refine w_c2 ?_ | with_reducible refine w_c1 ?_ | with_reducible refine w_cA ?_ | with_reducible refine w_cons ?_ | with_reducible refine w_nil ?_ | with_reducible refine w_c ?_ | with_reducible refine w_call ?_ | with_reducible refine w_it ?_ | with_reducible refine w_rng1 ?_ | with_reducible refine w_rng2 ?_ | with_reducible refine w_m0 ?_ | with_reducible refine w_m1 ?_ | with_reducible refine w_sl ?_ | with_reducible refine w_part ?_ | with_reducible refine w_noP ?_ | with_reducible refine w_b ?_ | with_reducible refine w_notB ?_ | with_reducible refine w_if ?_ | with_reducible refine w_chain ?_ | with_reducible refine w_zip ?_ | with_reducible refine w_enum ?_ | with_reducible refine wg_add ?_ | with_reducible refine wg_sub ?_ | with_reducible refine wg_neg ?_ | with_reducible refine wg_lt ?_ | with_reducible refine wg_le ?_ | with_reducible refine wg_gt ?_ | with_reducible refine wg_ge ?_ | with_reducible refine wg_not ?_ | with_reducible refine wg_lenL ?_ | with_reducible refine wg_lenT ?_ | with_reducible refine wg_lenC ?_ | with_reducible refine wg_int ?_ | with_reducible refine wg_intB ?_ | with_reducible refine wg_abs ?_ | with_reducible refine wg_max2 ?_ | with_reducible refine wg_min2 ?_ | with_reducible refine wg_reprB ?_ | with_reducible refine wg_itL ?_ | with_reducible refine wg_itT ?_ | with_reducible refine wg_itC ?_ | with_reducible refine wg_itS ?_ | with_reducible refine wg_slL ?_ | with_reducible refine wg_slT ?_ | with_reducible refine wg_tupleL ?_ | with_reducible refine wg_tupleT ?_ | with_reducible refine wg_listL ?_ | with_reducible refine wg_listT ?_ | with_reducible refine wg_revL ?_ | with_reducible refine wg_revT ?_ | with_reducible refine wg_zipT ?_ | with_reducible refine wg_allM ?_ | with_reducible refine wg_anyM ?_ | with_reducible refine w_var (by with_unfolding_all rfl) ?_ | with_reducible refine wg_mul (Or.inr (by decide)) ?_ | with_reducible refine wg_mul (Or.inl (by decide)) ?_ | with_reducible refine wg_mod (by decide +kernel) ?_ | with_reducible refine wg_fdiv (by decide) ?_ | with_reducible refine wg_pow (by decide +kernel) ?_ | with_reducible refine wg_tup (by simp; done) ?_ | with_reducible refine wg_lst (by simp; done) ?_ | with_reducible refine w_dieSet (by decide) ?_ | with_reducible refine w_dieAt (by decide) (fun _ => ?_) | refine ⟨_, rfl, ?_⟩ | refine ⟨rfl, ?_⟩))
  refine w_andV ?_
  (repeat (first | with_reducible refine ws_seq ?_ | with_reducible refine ws_asg ?_ | with_reducible refine ws_ret ?_ | with_reducible refine ws_if ?_ | with_reducible refine ws_next ?_ | with_reducible refine ws_retN ?_ | with_reducible refine ws_brk ?_ | with_reducible refine ws_cont ?_ | with_reducible refine ws_drop ?_ | with_reducible refine ws_setI ?_ | with_reducible refine ws_for ?_ | with_reducible refine ws_par ?_ | with_reducible refine ws_frz ?_ | with_reducible refine ws_parO ?_ | with_reducible refine ws_setOwn ?_ | with_reducible refine ⟨fun _ => ?_, fun z => absurd rfl z⟩ | refine And.intro rt_nx fun _ => ?_ | refine And.intro bk_nx fun _ => ?_ | refine And.intro ct_nx fun _ => ?_ | with_reducible refine w_c2 ?_ | with_reducible refine w_c1 ?_ | with_reducible refine w_cA ?_ | with_reducible refine w_cons ?_ | with_reducible refine w_nil ?_ | with_reducible refine w_c ?_ | with_reducible refine w_call ?_ | with_reducible refine w_it ?_ | with_reducible refine w_rng1 ?_ | with_reducible refine w_rng2 ?_ | with_reducible refine w_m0 ?_ | with_reducible refine w_m1 ?_ | with_reducible refine w_sl ?_ | with_reducible refine w_part ?_ | with_reducible refine w_noP ?_ | with_reducible refine w_b ?_ | with_reducible refine w_notB ?_ | with_reducible refine w_if ?_ | with_reducible refine w_chain ?_ | with_reducible refine w_zip ?_ | with_reducible refine w_enum ?_ | with_reducible refine wg_add ?_ | with_reducible refine wg_sub ?_ | with_reducible refine wg_neg ?_ | with_reducible refine wg_lt ?_ | with_reducible refine wg_le ?_ | with_reducible refine wg_gt ?_ | with_reducible refine wg_ge ?_ | with_reducible refine wg_not ?_ | with_reducible refine wg_lenL ?_ | with_reducible refine wg_lenT ?_ | with_reducible refine wg_lenC ?_ | with_reducible refine wg_int ?_ | with_reducible refine wg_intB ?_ | with_reducible refine wg_abs ?_ | with_reducible refine wg_max2 ?_ | with_reducible refine wg_min2 ?_ | with_reducible refine wg_reprB ?_ | with_reducible refine wg_itL ?_ | with_reducible refine wg_itT ?_ | with_reducible refine wg_itC ?_ | with_reducible refine wg_itS ?_ | with_reducible refine wg_slL ?_ | with_reducible refine wg_slT ?_ | with_reducible refine wg_tupleL ?_ | with_reducible refine wg_tupleT ?_ | with_reducible refine wg_listL ?_ | with_reducible refine wg_listT ?_ | with_reducible refine wg_revL ?_ | with_reducible refine wg_revT ?_ | with_reducible refine wg_zipT ?_ | with_reducible refine wg_allM ?_ | with_reducible refine wg_anyM ?_ | with_reducible refine w_var (by with_unfolding_all rfl) ?_ | with_reducible refine wg_mul (Or.inr (by decide)) ?_ | with_reducible refine wg_mul (Or.inl (by decide)) ?_ | with_reducible refine wg_mod (by decide +kernel) ?_ | with_reducible refine wg_fdiv (by decide) ?_ | with_reducible refine wg_pow (by decide +kernel) ?_ | with_reducible refine wg_tup (by simp; done) ?_ | with_reducible refine wg_lst (by simp; done) ?_ | with_reducible refine w_dieSet (by decide) ?_ | with_reducible refine w_dieAt (by decide) (fun _ => ?_) | refine ⟨_, rfl, ?_⟩ | refine ⟨rfl, ?_⟩))
  refine wg_isInt h ⟨_, rfl, fun h1 => ?_, fun h1 => ?_⟩
  · (repeat (first | with_reducible refine ws_seq ?_ | with_reducible refine ws_asg ?_ | with_reducible refine ws_ret ?_ | with_reducible refine ws_if ?_ | with_reducible refine ws_next ?_ | with_reducible refine ws_retN ?_ | with_reducible refine ws_brk ?_ | with_reducible refine ws_cont ?_ | with_reducible refine ws_drop ?_ | with_reducible refine ws_setI ?_ | with_reducible refine ws_for ?_ | with_reducible refine ws_par ?_ | with_reducible refine ws_frz ?_ | with_reducible refine ws_parO ?_ | with_reducible refine ws_setOwn ?_ | with_reducible refine ⟨fun _ => ?_, fun z => absurd rfl z⟩ | refine And.intro rt_nx fun _ => ?_ | refine And.intro bk_nx fun _ => ?_ | refine And.intro ct_nx fun _ => ?_ | with_reducible refine w_c2 ?_ | with_reducible refine w_c1 ?_ | with_reducible refine w_cA ?_ | with_reducible refine w_cons ?_ | with_reducible refine w_nil ?_ | with_reducible refine w_c ?_ | with_reducible refine w_call ?_ | with_reducible refine w_it ?_ | with_reducible refine w_rng1 ?_ | with_reducible refine w_rng2 ?_ | with_reducible refine w_m0 ?_ | with_reducible refine w_m1 ?_ | with_reducible refine w_sl ?_ | with_reducible refine w_part ?_ | with_reducible refine w_noP ?_ | with_reducible refine w_b ?_ | with_reducible refine w_notB ?_ | with_reducible refine w_if ?_ | with_reducible refine w_chain ?_ | with_reducible refine w_zip ?_ | with_reducible refine w_enum ?_ | with_reducible refine wg_add ?_ | with_reducible refine wg_sub ?_ | with_reducible refine wg_neg ?_ | with_reducible refine wg_lt ?_ | with_reducible refine wg_le ?_ | with_reducible refine wg_gt ?_ | with_reducible refine wg_ge ?_ | with_reducible refine wg_not ?_ | with_reducible refine wg_lenL ?_ | with_reducible refine wg_lenT ?_ | with_reducible refine wg_lenC ?_ | with_reducible refine wg_int ?_ | with_reducible refine wg_intB ?_ | with_reducible refine wg_abs ?_ | with_reducible refine wg_max2 ?_ | with_reducible refine wg_min2 ?_ | with_reducible refine wg_reprB ?_ | with_reducible refine wg_itL ?_ | with_reducible refine wg_itT ?_ | with_reducible refine wg_itC ?_ | with_reducible refine wg_itS ?_ | with_reducible refine wg_slL ?_ | with_reducible refine wg_slT ?_ | with_reducible refine wg_tupleL ?_ | with_reducible refine wg_tupleT ?_ | with_reducible refine wg_listL ?_ | with_reducible refine wg_listT ?_ | with_reducible refine wg_revL ?_ | with_reducible refine wg_revT ?_ | with_reducible refine wg_zipT ?_ | with_reducible refine wg_allM ?_ | with_reducible refine wg_anyM ?_ | with_reducible refine w_var (by with_unfolding_all rfl) ?_ | with_reducible refine wg_mul (Or.inr (by decide)) ?_ | with_reducible refine wg_mul (Or.inl (by decide)) ?_ | with_reducible refine wg_mod (by decide +kernel) ?_ | with_reducible refine wg_fdiv (by decide) ?_ | with_reducible refine wg_pow (by decide +kernel) ?_ | with_reducible refine wg_tup (by simp; done) ?_ | with_reducible refine wg_lst (by simp; done) ?_ | with_reducible refine w_dieSet (by decide) ?_ | with_reducible refine w_dieAt (by decide) (fun _ => ?_) | refine ⟨_, rfl, ?_⟩ | refine ⟨rfl, ?_⟩))
    refine wg_isBool h ?_
    (repeat (first | with_reducible refine ws_seq ?_ | with_reducible refine ws_asg ?_ | with_reducible refine ws_ret ?_ | with_reducible refine ws_if ?_ | with_reducible refine ws_next ?_ | with_reducible refine ws_retN ?_ | with_reducible refine ws_brk ?_ | with_reducible refine ws_cont ?_ | with_reducible refine ws_drop ?_ | with_reducible refine ws_setI ?_ | with_reducible refine ws_for ?_ | with_reducible refine ws_par ?_ | with_reducible refine ws_frz ?_ | with_reducible refine ws_parO ?_ | with_reducible refine ws_setOwn ?_ | with_reducible refine ⟨fun _ => ?_, fun z => absurd rfl z⟩ | refine And.intro rt_nx fun _ => ?_ | refine And.intro bk_nx fun _ => ?_ | refine And.intro ct_nx fun _ => ?_ | with_reducible refine w_c2 ?_ | with_reducible refine w_c1 ?_ | with_reducible refine w_cA ?_ | with_reducible refine w_cons ?_ | with_reducible refine w_nil ?_ | with_reducible refine w_c ?_ | with_reducible refine w_call ?_ | with_reducible refine w_it ?_ | with_reducible refine w_rng1 ?_ | with_reducible refine w_rng2 ?_ | with_reducible refine w_m0 ?_ | with_reducible refine w_m1 ?_ | with_reducible refine w_sl ?_ | with_reducible refine w_part ?_ | with_reducible refine w_noP ?_ | with_reducible refine w_b ?_ | with_reducible refine w_notB ?_ | with_reducible refine w_if ?_ | with_reducible refine w_chain ?_ | with_reducible refine w_zip ?_ | with_reducible refine w_enum ?_ | with_reducible refine wg_add ?_ | with_reducible refine wg_sub ?_ | with_reducible refine wg_neg ?_ | with_reducible refine wg_lt ?_ | with_reducible refine wg_le ?_ | with_reducible refine wg_gt ?_ | with_reducible refine wg_ge ?_ | with_reducible refine wg_not ?_ | with_reducible refine wg_lenL ?_ | with_reducible refine wg_lenT ?_ | with_reducible refine wg_lenC ?_ | with_reducible refine wg_int ?_ | with_reducible refine wg_intB ?_ | with_reducible refine wg_abs ?_ | with_reducible refine wg_max2 ?_ | with_reducible refine wg_min2 ?_ | with_reducible refine wg_reprB ?_ | with_reducible refine wg_itL ?_ | with_reducible refine wg_itT ?_ | with_reducible refine wg_itC ?_ | with_reducible refine wg_itS ?_ | with_reducible refine wg_slL ?_ | with_reducible refine wg_slT ?_ | with_reducible refine wg_tupleL ?_ | with_reducible refine wg_tupleT ?_ | with_reducible refine wg_listL ?_ | with_reducible refine wg_listT ?_ | with_reducible refine wg_revL ?_ | with_reducible refine wg_revT ?_ | with_reducible refine wg_zipT ?_ | with_reducible refine wg_allM ?_ | with_reducible refine wg_anyM ?_ | with_reducible refine w_var (by with_unfolding_all rfl) ?_ | with_reducible refine wg_mul (Or.inr (by decide)) ?_ | with_reducible refine wg_mul (Or.inl (by decide)) ?_ | with_reducible refine wg_mod (by decide +kernel) ?_ | with_reducible refine wg_fdiv (by decide) ?_ | with_reducible refine wg_pow (by decide +kernel) ?_ | with_reducible refine wg_tup (by simp; done) ?_ | with_reducible refine wg_lst (by simp; done) ?_ | with_reducible refine w_dieSet (by decide) ?_ | with_reducible refine w_dieAt (by decide) (fun _ => ?_) | refine ⟨_, rfl, ?_⟩ | refine ⟨rfl, ?_⟩))
    cases d <;> first | rfl | cases h1
  · cases d <;> first | rfl | cases h1
theorem w_is_count {d : D} {k : Int} (h : Ty d) : Wp I (F_is_count [d, .int k]) (fun r => r = .bl (isCount k d)) X := by
  refine w_def rfl ?_
  unfold b_is_count
  (repeat (first | with_reducible refine ws_seq ?_ | with_reducible refine ws_asg ?_ | with_reducible refine ws_ret ?_ | with_reducible refine ws_if ?_ | with_reducible refine ws_next ?_ | with_reducible refine ws_retN ?_ | with_reducible refine ws_brk ?_ | with_reducible refine ws_cont ?_ | with_reducible refine ws_drop ?_ | with_reducible refine ws_setI ?_ | with_reducible refine ws_for ?_ | with_reducible refine ws_par ?_ | with_reducible refine ws_frz ?_ | with_reducible refine ws_parO ?_ | with_reducible refine ws_setOwn ?_ | with_reducible refine ⟨fun _ => ?_, fun z => absurd rfl z⟩ | refine And.intro rt_nx fun _ => ?_ | refine And.intro bk_nx fun _ => ?_ | refine And.intro ct_nx fun _ => ?_ | with_reducible refine w_c2 ?_ | with_reducible refine w_c1 ?_ | with_reducible refine w_cA ?_ | with_reducible refine w_cons ?_ | with_reducible refine w_nil ?_ | with_reducible refine w_c ?_ | with_reducible refine w_call ?_ | with_reducible refine w_it ?_ | with_reducible refine w_rng1 ?_ | with_reducible refine w_rng2 ?_ | with_reducible refine w_m0 ?_ | with_reducible refine w_m1 ?_ | with_reducible refine w_sl ?_ | with_reducible refine w_part ?_ | with_reducible refine w_noP ?_ | with_reducible refine w_b ?_ | with_reducible refine w_notB ?_ | with_reducible refine w_if ?_ | with_reducible refine w_chain ?_ | with_reducible refine w_zip ?_ | with_reducible refine w_enum ?_ | with_reducible refine wg_add ?_ | with_reducible refine wg_sub ?_ | with_reducible refine wg_neg ?_ | with_reducible refine wg_lt ?_ | with_reducible refine wg_le ?_ | with_reducible refine wg_gt ?_ | with_reducible refine wg_ge ?_ | with_reducible refine wg_not ?_ | with_reducible refine wg_lenL ?_ | with_reducible refine wg_lenT ?_ | with_reducible refine wg_lenC ?_ | with_reducible refine wg_int ?_ | with_reducible refine wg_intB ?_ | with_reducible refine wg_abs ?_ | with_reducible refine wg_max2 ?_ | with_reducible refine wg_min2 ?_ | with_reducible refine wg_reprB ?_ | with_reducible refine wg_itL ?_ | with_reducible refine wg_itT ?_ | with_reducible refine wg_itC ?_ | with_reducible refine wg_itS ?_ | with_reducible refine wg_slL ?_ | with_reducible refine wg_slT ?_ | with_reducible refine wg_tupleL ?_ | with_reducible refine wg_tupleT ?_ | with_reducible refine wg_listL ?_ | with_reducible refine wg_listT ?_ | with_reducible refine wg_revL ?_ | with_reducible refine wg_revT ?_ | with_reducible refine wg_zipT ?_ | with_reducible refine wg_allM ?_ | with_reducible refine wg_anyM ?_ | with_reducible refine w_var (by with_unfolding_all rfl) ?_ | with_reducible refine wg_mul (Or.inr (by decide)) ?_ | with_reducible refine wg_mul (Or.inl (by decide)) ?_ | with_reducible refine wg_mod (by decide +kernel) ?_ | with_reducible refine wg_fdiv (by decide) ?_ | with_reducible refine wg_pow (by decide +kernel) ?_ | with_reducible refine wg_tup (by simp; done) ?_ | with_reducible refine wg_lst (by simp; done) ?_ | with_reducible refine w_dieSet (by decide) ?_ | with_reducible refine w_dieAt (by decide) (fun _ => ?_) | refine ⟨_, rfl, ?_⟩ | refine ⟨rfl, ?_⟩))
  refine w_andV ?_
  (repeat (first | with_reducible refine ws_seq ?_ | with_reducible refine ws_asg ?_ | with_reducible refine ws_ret ?_ | with_reducible refine ws_if ?_ | with_reducible refine ws_next ?_ | with_reducible refine ws_retN ?_ | with_reducible refine ws_brk ?_ | with_reducible refine ws_cont ?_ | with_reducible refine ws_drop ?_ | with_reducible refine ws_setI ?_ | with_reducible refine ws_for ?_ | with_reducible refine ws_par ?_ | with_reducible refine ws_frz ?_ | with_reducible refine ws_parO ?_ | with_reducible refine ws_setOwn ?_ | with_reducible refine ⟨fun _ => ?_, fun z => absurd rfl z⟩ | refine And.intro rt_nx fun _ => ?_ | refine And.intro bk_nx fun _ => ?_ | refine And.intro ct_nx fun _ => ?_ | with_reducible refine w_c2 ?_ | with_reducible refine w_c1 ?_ | with_reducible refine w_cA ?_ | with_reducible refine w_cons ?_ | with_reducible refine w_nil ?_ | with_reducible refine w_c ?_ | with_reducible refine w_call ?_ | with_reducible refine w_it ?_ | with_reducible refine w_rng1 ?_ | with_reducible refine w_rng2 ?_ | with_reducible refine w_m0 ?_ | with_reducible refine w_m1 ?_ | with_reducible refine w_sl ?_ | with_reducible refine w_part ?_ | with_reducible refine w_noP ?_ | with_reducible refine w_b ?_ | with_reducible refine w_notB ?_ | with_reducible refine w_if ?_ | with_reducible refine w_chain ?_ | with_reducible refine w_zip ?_ | with_reducible refine w_enum ?_ | with_reducible refine wg_add ?_ | with_reducible refine wg_sub ?_ | with_reducible refine wg_neg ?_ | with_reducible refine wg_lt ?_ | with_reducible refine wg_le ?_ | with_reducible refine wg_gt ?_ | with_reducible refine wg_ge ?_ | with_reducible refine wg_not ?_ | with_reducible refine wg_lenL ?_ | with_reducible refine wg_lenT ?_ | with_reducible refine wg_lenC ?_ | with_reducible refine wg_int ?_ | with_reducible refine wg_intB ?_ | with_reducible refine wg_abs ?_ | with_reducible refine wg_max2 ?_ | with_reducible refine wg_min2 ?_ | with_reducible refine wg_reprB ?_ | with_reducible refine wg_itL ?_ | with_reducible refine wg_itT ?_ | with_reducible refine wg_itC ?_ | with_reducible refine wg_itS ?_ | with_reducible refine wg_slL ?_ | with_reducible refine wg_slT ?_ | with_reducible refine wg_tupleL ?_ | with_reducible refine wg_tupleT ?_ | with_reducible refine wg_listL ?_ | with_reducible refine wg_listT ?_ | with_reducible refine wg_revL ?_ | with_reducible refine wg_revT ?_ | with_reducible refine wg_zipT ?_ | with_reducible refine wg_allM ?_ | with_reducible refine wg_anyM ?_ | with_reducible refine w_var (by with_unfolding_all rfl) ?_ | with_reducible refine wg_mul (Or.inr (by decide)) ?_ | with_reducible refine wg_mul (Or.inl (by decide)) ?_ | with_reducible refine wg_mod (by decide +kernel) ?_ | with_reducible refine wg_fdiv (by decide) ?_ | with_reducible refine wg_pow (by decide +kernel) ?_ | with_reducible refine wg_tup (by simp; done) ?_ | with_reducible refine wg_lst (by simp; done) ?_ | with_reducible refine w_dieSet (by decide) ?_ | with_reducible refine w_dieAt (by decide) (fun _ => ?_) | refine ⟨_, rfl, ?_⟩ | refine ⟨rfl, ?_⟩))
  refine (w_is_integer h).imp (fun r hr => ?_) fun _ _ x => x
  subst hr
  refine ⟨_, rfl, fun h => ?_, fun h => ?_⟩
  · cases d with
    | int i =>
      (repeat (first | with_reducible refine ws_seq ?_ | with_reducible refine ws_asg ?_ | with_reducible refine ws_ret ?_ | with_reducible refine ws_if ?_ | with_reducible refine ws_next ?_ | with_reducible refine ws_retN ?_ | with_reducible refine ws_brk ?_ | with_reducible refine ws_cont ?_ | with_reducible refine ws_drop ?_ | with_reducible refine ws_setI ?_ | with_reducible refine ws_for ?_ | with_reducible refine ws_par ?_ | with_reducible refine ws_frz ?_ | with_reducible refine ws_parO ?_ | with_reducible refine ws_setOwn ?_ | with_reducible refine ⟨fun _ => ?_, fun z => absurd rfl z⟩ | refine And.intro rt_nx fun _ => ?_ | refine And.intro bk_nx fun _ => ?_ | refine And.intro ct_nx fun _ => ?_ | with_reducible refine w_c2 ?_ | with_reducible refine w_c1 ?_ | with_reducible refine w_cA ?_ | with_reducible refine w_cons ?_ | with_reducible refine w_nil ?_ | with_reducible refine w_c ?_ | with_reducible refine w_call ?_ | with_reducible refine w_it ?_ | with_reducible refine w_rng1 ?_ | with_reducible refine w_rng2 ?_ | with_reducible refine w_m0 ?_ | with_reducible refine w_m1 ?_ | with_reducible refine w_sl ?_ | with_reducible refine w_part ?_ | with_reducible refine w_noP ?_ | with_reducible refine w_b ?_ | with_reducible refine w_notB ?_ | with_reducible refine w_if ?_ | with_reducible refine w_chain ?_ | with_reducible refine w_zip ?_ | with_reducible refine w_enum ?_ | with_reducible refine wg_add ?_ | with_reducible refine wg_sub ?_ | with_reducible refine wg_neg ?_ | with_reducible refine wg_lt ?_ | with_reducible refine wg_le ?_ | with_reducible refine wg_gt ?_ | with_reducible refine wg_ge ?_ | with_reducible refine wg_not ?_ | with_reducible refine wg_lenL ?_ | with_reducible refine wg_lenT ?_ | with_reducible refine wg_lenC ?_ | with_reducible refine wg_int ?_ | with_reducible refine wg_intB ?_ | with_reducible refine wg_abs ?_ | with_reducible refine wg_max2 ?_ | with_reducible refine wg_min2 ?_ | with_reducible refine wg_reprB ?_ | with_reducible refine wg_itL ?_ | with_reducible refine wg_itT ?_ | with_reducible refine wg_itC ?_ | with_reducible refine wg_itS ?_ | with_reducible refine wg_slL ?_ | with_reducible refine wg_slT ?_ | with_reducible refine wg_tupleL ?_ | with_reducible refine wg_tupleT ?_ | with_reducible refine wg_listL ?_ | with_reducible refine wg_listT ?_ | with_reducible refine wg_revL ?_ | with_reducible refine wg_revT ?_ | with_reducible refine wg_zipT ?_ | with_reducible refine wg_allM ?_ | with_reducible refine wg_anyM ?_ | with_reducible refine w_var (by with_unfolding_all rfl) ?_ | with_reducible refine wg_mul (Or.inr (by decide)) ?_ | with_reducible refine wg_mul (Or.inl (by decide)) ?_ | with_reducible refine wg_mod (by decide +kernel) ?_ | with_reducible refine wg_fdiv (by decide) ?_ | with_reducible refine wg_pow (by decide +kernel) ?_ | with_reducible refine wg_tup (by simp; done) ?_ | with_reducible refine wg_lst (by simp; done) ?_ | with_reducible refine w_dieSet (by decide) ?_ | with_reducible refine w_dieAt (by decide) (fun _ => ?_) | refine ⟨_, rfl, ?_⟩ | refine ⟨rfl, ?_⟩))
      rfl
    | _ => cases h
  · cases d with
    | int i => cases h
    | _ => rfl
theorem len5 {n : Nat} : decide ((0 : Int) < (n : Int)) = decide (0 < n) ∧ decide ((n : Int) ≤ 5) = decide (n ≤ 5) := by
  constructor <;> rw [decide_eq_decide] <;> omega
theorem w_is_wide {d : D} (h : Ty2 d) : Wp I (F_is_wide [d]) (fun r => r = .bl (isBagOf (-1) d)) X := by
  obtain ⟨ht, hx⟩ := h
  refine w_def rfl ?_
  unfold b_is_wide
  (repeat (first | with_reducible refine ws_seq ?_ | with_reducible refine ws_asg ?_ | with_reducible refine ws_ret ?_ | with_reducible refine ws_if ?_ | with_reducible refine ws_next ?_ | with_reducible refine ws_retN ?_ | with_reducible refine ws_brk ?_ | with_reducible refine ws_cont ?_ | with_reducible refine ws_drop ?_ | with_reducible refine ws_setI ?_ | with_reducible refine ws_for ?_ | with_reducible refine ws_par ?_ | with_reducible refine ws_frz ?_ | with_reducible refine ws_parO ?_ | with_reducible refine ws_setOwn ?_ | with_reducible refine ⟨fun _ => ?_, fun z => absurd rfl z⟩ | refine And.intro rt_nx fun _ => ?_ | refine And.intro bk_nx fun _ => ?_ | refine And.intro ct_nx fun _ => ?_ | with_reducible refine w_c2 ?_ | with_reducible refine w_c1 ?_ | with_reducible refine w_cA ?_ | with_reducible refine w_cons ?_ | with_reducible refine w_nil ?_ | with_reducible refine w_c ?_ | with_reducible refine w_call ?_ | with_reducible refine w_it ?_ | with_reducible refine w_rng1 ?_ | with_reducible refine w_rng2 ?_ | with_reducible refine w_m0 ?_ | with_reducible refine w_m1 ?_ | with_reducible refine w_sl ?_ | with_reducible refine w_part ?_ | with_reducible refine w_noP ?_ | with_reducible refine w_b ?_ | with_reducible refine w_notB ?_ | with_reducible refine w_if ?_ | with_reducible refine w_chain ?_ | with_reducible refine w_zip ?_ | with_reducible refine w_enum ?_ | with_reducible refine wg_add ?_ | with_reducible refine wg_sub ?_ | with_reducible refine wg_neg ?_ | with_reducible refine wg_lt ?_ | with_reducible refine wg_le ?_ | with_reducible refine wg_gt ?_ | with_reducible refine wg_ge ?_ | with_reducible refine wg_not ?_ | with_reducible refine wg_lenL ?_ | with_reducible refine wg_lenT ?_ | with_reducible refine wg_lenC ?_ | with_reducible refine wg_int ?_ | with_reducible refine wg_intB ?_ | with_reducible refine wg_abs ?_ | with_reducible refine wg_max2 ?_ | with_reducible refine wg_min2 ?_ | with_reducible refine wg_reprB ?_ | with_reducible refine wg_itL ?_ | with_reducible refine wg_itT ?_ | with_reducible refine wg_itC ?_ | with_reducible refine wg_itS ?_ | with_reducible refine wg_slL ?_ | with_reducible refine wg_slT ?_ | with_reducible refine wg_tupleL ?_ | with_reducible refine wg_tupleT ?_ | with_reducible refine wg_listL ?_ | with_reducible refine wg_listT ?_ | with_reducible refine wg_revL ?_ | with_reducible refine wg_revT ?_ | with_reducible refine wg_zipT ?_ | with_reducible refine wg_allM ?_ | with_reducible refine wg_anyM ?_ | with_reducible refine w_var (by with_unfolding_all rfl) ?_ | with_reducible refine wg_mul (Or.inr (by decide)) ?_ | with_reducible refine wg_mul (Or.inl (by decide)) ?_ | with_reducible refine wg_mod (by decide +kernel) ?_ | with_reducible refine wg_fdiv (by decide) ?_ | with_reducible refine wg_pow (by decide +kernel) ?_ | with_reducible refine wg_tup (by simp; done) ?_ | with_reducible refine wg_lst (by simp; done) ?_ | with_reducible refine w_dieSet (by decide) ?_ | with_reducible refine w_dieAt (by decide) (fun _ => ?_) | refine ⟨_, rfl, ?_⟩ | refine ⟨rfl, ?_⟩))
  refine w_orB ?_
  (repeat (first | with_reducible refine ws_seq ?_ | with_reducible refine ws_asg ?_ | with_reducible refine ws_ret ?_ | with_reducible refine ws_if ?_ | with_reducible refine ws_next ?_ | with_reducible refine ws_retN ?_ | with_reducible refine ws_brk ?_ | with_reducible refine ws_cont ?_ | with_reducible refine ws_drop ?_ | with_reducible refine ws_setI ?_ | with_reducible refine ws_for ?_ | with_reducible refine ws_par ?_ | with_reducible refine ws_frz ?_ | with_reducible refine ws_parO ?_ | with_reducible refine ws_setOwn ?_ | with_reducible refine ⟨fun _ => ?_, fun z => absurd rfl z⟩ | refine And.intro rt_nx fun _ => ?_ | refine And.intro bk_nx fun _ => ?_ | refine And.intro ct_nx fun _ => ?_ | with_reducible refine w_c2 ?_ | with_reducible refine w_c1 ?_ | with_reducible refine w_cA ?_ | with_reducible refine w_cons ?_ | with_reducible refine w_nil ?_ | with_reducible refine w_c ?_ | with_reducible refine w_call ?_ | with_reducible refine w_it ?_ | with_reducible refine w_rng1 ?_ | with_reducible refine w_rng2 ?_ | with_reducible refine w_m0 ?_ | with_reducible refine w_m1 ?_ | with_reducible refine w_sl ?_ | with_reducible refine w_part ?_ | with_reducible refine w_noP ?_ | with_reducible refine w_b ?_ | with_reducible refine w_notB ?_ | with_reducible refine w_if ?_ | with_reducible refine w_chain ?_ | with_reducible refine w_zip ?_ | with_reducible refine w_enum ?_ | with_reducible refine wg_add ?_ | with_reducible refine wg_sub ?_ | with_reducible refine wg_neg ?_ | with_reducible refine wg_lt ?_ | with_reducible refine wg_le ?_ | with_reducible refine wg_gt ?_ | with_reducible refine wg_ge ?_ | with_reducible refine wg_not ?_ | with_reducible refine wg_lenL ?_ | with_reducible refine wg_lenT ?_ | with_reducible refine wg_lenC ?_ | with_reducible refine wg_int ?_ | with_reducible refine wg_intB ?_ | with_reducible refine wg_abs ?_ | with_reducible refine wg_max2 ?_ | with_reducible refine wg_min2 ?_ | with_reducible refine wg_reprB ?_ | with_reducible refine wg_itL ?_ | with_reducible refine wg_itT ?_ | with_reducible refine wg_itC ?_ | with_reducible refine wg_itS ?_ | with_reducible refine wg_slL ?_ | with_reducible refine wg_slT ?_ | with_reducible refine wg_tupleL ?_ | with_reducible refine wg_tupleT ?_ | with_reducible refine wg_listL ?_ | with_reducible refine wg_listT ?_ | with_reducible refine wg_revL ?_ | with_reducible refine wg_revT ?_ | with_reducible refine wg_zipT ?_ | with_reducible refine wg_allM ?_ | with_reducible refine wg_anyM ?_ | with_reducible refine w_var (by with_unfolding_all rfl) ?_ | with_reducible refine wg_mul (Or.inr (by decide)) ?_ | with_reducible refine wg_mul (Or.inl (by decide)) ?_ | with_reducible refine wg_mod (by decide +kernel) ?_ | with_reducible refine wg_fdiv (by decide) ?_ | with_reducible refine wg_pow (by decide +kernel) ?_ | with_reducible refine wg_tup (by simp; done) ?_ | with_reducible refine wg_lst (by simp; done) ?_ | with_reducible refine w_dieSet (by decide) ?_ | with_reducible refine w_dieAt (by decide) (fun _ => ?_) | refine ⟨_, rfl, ?_⟩ | refine ⟨rfl, ?_⟩))
  refine wg_isTuple ht ?_
  refine ⟨_, rfl, fun h => ?_, fun h => ?_⟩
  · cases d with
    | tup xs =>
      obtain ⟨hl, hx⟩ := hx xs rfl
      (repeat (first | with_reducible refine ws_seq ?_ | with_reducible refine ws_asg ?_ | with_reducible refine ws_ret ?_ | with_reducible refine ws_if ?_ | with_reducible refine ws_next ?_ | with_reducible refine ws_retN ?_ | with_reducible refine ws_brk ?_ | with_reducible refine ws_cont ?_ | with_reducible refine ws_drop ?_ | with_reducible refine ws_setI ?_ | with_reducible refine ws_for ?_ | with_reducible refine ws_par ?_ | with_reducible refine ws_frz ?_ | with_reducible refine ws_parO ?_ | with_reducible refine ws_setOwn ?_ | with_reducible refine ⟨fun _ => ?_, fun z => absurd rfl z⟩ | refine And.intro rt_nx fun _ => ?_ | refine And.intro bk_nx fun _ => ?_ | refine And.intro ct_nx fun _ => ?_ | with_reducible refine w_c2 ?_ | with_reducible refine w_c1 ?_ | with_reducible refine w_cA ?_ | with_reducible refine w_cons ?_ | with_reducible refine w_nil ?_ | with_reducible refine w_c ?_ | with_reducible refine w_call ?_ | with_reducible refine w_it ?_ | with_reducible refine w_rng1 ?_ | with_reducible refine w_rng2 ?_ | with_reducible refine w_m0 ?_ | with_reducible refine w_m1 ?_ | with_reducible refine w_sl ?_ | with_reducible refine w_part ?_ | with_reducible refine w_noP ?_ | with_reducible refine w_b ?_ | with_reducible refine w_notB ?_ | with_reducible refine w_if ?_ | with_reducible refine w_chain ?_ | with_reducible refine w_zip ?_ | with_reducible refine w_enum ?_ | with_reducible refine wg_add ?_ | with_reducible refine wg_sub ?_ | with_reducible refine wg_neg ?_ | with_reducible refine wg_lt ?_ | with_reducible refine wg_le ?_ | with_reducible refine wg_gt ?_ | with_reducible refine wg_ge ?_ | with_reducible refine wg_not ?_ | with_reducible refine wg_lenL ?_ | with_reducible refine wg_lenT ?_ | with_reducible refine wg_lenC ?_ | with_reducible refine wg_int ?_ | with_reducible refine wg_intB ?_ | with_reducible refine wg_abs ?_ | with_reducible refine wg_max2 ?_ | with_reducible refine wg_min2 ?_ | with_reducible refine wg_reprB ?_ | with_reducible refine wg_itL ?_ | with_reducible refine wg_itT ?_ | with_reducible refine wg_itC ?_ | with_reducible refine wg_itS ?_ | with_reducible refine wg_slL ?_ | with_reducible refine wg_slT ?_ | with_reducible refine wg_tupleL ?_ | with_reducible refine wg_tupleT ?_ | with_reducible refine wg_listL ?_ | with_reducible refine wg_listT ?_ | with_reducible refine wg_revL ?_ | with_reducible refine wg_revT ?_ | with_reducible refine wg_zipT ?_ | with_reducible refine wg_allM ?_ | with_reducible refine wg_anyM ?_ | with_reducible refine w_var (by with_unfolding_all rfl) ?_ | with_reducible refine wg_mul (Or.inr (by decide)) ?_ | with_reducible refine wg_mul (Or.inl (by decide)) ?_ | with_reducible refine wg_mod (by decide +kernel) ?_ | with_reducible refine wg_fdiv (by decide) ?_ | with_reducible refine wg_pow (by decide +kernel) ?_ | with_reducible refine wg_tup (by simp; done) ?_ | with_reducible refine wg_lst (by simp; done) ?_ | with_reducible refine w_dieSet (by decide) ?_ | with_reducible refine w_dieAt (by decide) (fun _ => ?_) | refine ⟨_, rfl, ?_⟩ | refine ⟨rfl, ?_⟩))
      rw [len5.1]
      by_cases h1 : 0 < xs.length
      · refine ⟨fun _ => ?_, fun z => absurd (decide_eq_true h1) (by rw [z]; exact Bool.false_ne_true)⟩
        (repeat (first | with_reducible refine ws_seq ?_ | with_reducible refine ws_asg ?_ | with_reducible refine ws_ret ?_ | with_reducible refine ws_if ?_ | with_reducible refine ws_next ?_ | with_reducible refine ws_retN ?_ | with_reducible refine ws_brk ?_ | with_reducible refine ws_cont ?_ | with_reducible refine ws_drop ?_ | with_reducible refine ws_setI ?_ | with_reducible refine ws_for ?_ | with_reducible refine ws_par ?_ | with_reducible refine ws_frz ?_ | with_reducible refine ws_parO ?_ | with_reducible refine ws_setOwn ?_ | with_reducible refine ⟨fun _ => ?_, fun z => absurd rfl z⟩ | refine And.intro rt_nx fun _ => ?_ | refine And.intro bk_nx fun _ => ?_ | refine And.intro ct_nx fun _ => ?_ | with_reducible refine w_c2 ?_ | with_reducible refine w_c1 ?_ | with_reducible refine w_cA ?_ | with_reducible refine w_cons ?_ | with_reducible refine w_nil ?_ | with_reducible refine w_c ?_ | with_reducible refine w_call ?_ | with_reducible refine w_it ?_ | with_reducible refine w_rng1 ?_ | with_reducible refine w_rng2 ?_ | with_reducible refine w_m0 ?_ | with_reducible refine w_m1 ?_ | with_reducible refine w_sl ?_ | with_reducible refine w_part ?_ | with_reducible refine w_noP ?_ | with_reducible refine w_b ?_ | with_reducible refine w_notB ?_ | with_reducible refine w_if ?_ | with_reducible refine w_chain ?_ | with_reducible refine w_zip ?_ | with_reducible refine w_enum ?_ | with_reducible refine wg_add ?_ | with_reducible refine wg_sub ?_ | with_reducible refine wg_neg ?_ | with_reducible refine wg_lt ?_ | with_reducible refine wg_le ?_ | with_reducible refine wg_gt ?_ | with_reducible refine wg_ge ?_ | with_reducible refine wg_not ?_ | with_reducible refine wg_lenL ?_ | with_reducible refine wg_lenT ?_ | with_reducible refine wg_lenC ?_ | with_reducible refine wg_int ?_ | with_reducible refine wg_intB ?_ | with_reducible refine wg_abs ?_ | with_reducible refine wg_max2 ?_ | with_reducible refine wg_min2 ?_ | with_reducible refine wg_reprB ?_ | with_reducible refine wg_itL ?_ | with_reducible refine wg_itT ?_ | with_reducible refine wg_itC ?_ | with_reducible refine wg_itS ?_ | with_reducible refine wg_slL ?_ | with_reducible refine wg_slT ?_ | with_reducible refine wg_tupleL ?_ | with_reducible refine wg_tupleT ?_ | with_reducible refine wg_listL ?_ | with_reducible refine wg_listT ?_ | with_reducible refine wg_revL ?_ | with_reducible refine wg_revT ?_ | with_reducible refine wg_zipT ?_ | with_reducible refine wg_allM ?_ | with_reducible refine wg_anyM ?_ | with_reducible refine w_var (by with_unfolding_all rfl) ?_ | with_reducible refine wg_mul (Or.inr (by decide)) ?_ | with_reducible refine wg_mul (Or.inl (by decide)) ?_ | with_reducible refine wg_mod (by decide +kernel) ?_ | with_reducible refine wg_fdiv (by decide) ?_ | with_reducible refine wg_pow (by decide +kernel) ?_ | with_reducible refine wg_tup (by simp; done) ?_ | with_reducible refine wg_lst (by simp; done) ?_ | with_reducible refine w_dieSet (by decide) ?_ | with_reducible refine w_dieAt (by decide) (fun _ => ?_) | refine ⟨_, rfl, ?_⟩ | refine ⟨rfl, ?_⟩))
        rw [len5.2]
        by_cases h2 : xs.length ≤ 5
        · rw [decide_eq_true h2]
          refine ⟨fun z => (nomatch z), fun _ => ?_⟩
          (repeat (first | with_reducible refine ws_seq ?_ | with_reducible refine ws_asg ?_ | with_reducible refine ws_ret ?_ | with_reducible refine ws_if ?_ | with_reducible refine ws_next ?_ | with_reducible refine ws_retN ?_ | with_reducible refine ws_brk ?_ | with_reducible refine ws_cont ?_ | with_reducible refine ws_drop ?_ | with_reducible refine ws_setI ?_ | with_reducible refine ws_for ?_ | with_reducible refine ws_par ?_ | with_reducible refine ws_frz ?_ | with_reducible refine ws_parO ?_ | with_reducible refine ws_setOwn ?_ | with_reducible refine ⟨fun _ => ?_, fun z => absurd rfl z⟩ | refine And.intro rt_nx fun _ => ?_ | refine And.intro bk_nx fun _ => ?_ | refine And.intro ct_nx fun _ => ?_ | with_reducible refine w_c2 ?_ | with_reducible refine w_c1 ?_ | with_reducible refine w_cA ?_ | with_reducible refine w_cons ?_ | with_reducible refine w_nil ?_ | with_reducible refine w_c ?_ | with_reducible refine w_call ?_ | with_reducible refine w_it ?_ | with_reducible refine w_rng1 ?_ | with_reducible refine w_rng2 ?_ | with_reducible refine w_m0 ?_ | with_reducible refine w_m1 ?_ | with_reducible refine w_sl ?_ | with_reducible refine w_part ?_ | with_reducible refine w_noP ?_ | with_reducible refine w_b ?_ | with_reducible refine w_notB ?_ | with_reducible refine w_if ?_ | with_reducible refine w_chain ?_ | with_reducible refine w_zip ?_ | with_reducible refine w_enum ?_ | with_reducible refine wg_add ?_ | with_reducible refine wg_sub ?_ | with_reducible refine wg_neg ?_ | with_reducible refine wg_lt ?_ | with_reducible refine wg_le ?_ | with_reducible refine wg_gt ?_ | with_reducible refine wg_ge ?_ | with_reducible refine wg_not ?_ | with_reducible refine wg_lenL ?_ | with_reducible refine wg_lenT ?_ | with_reducible refine wg_lenC ?_ | with_reducible refine wg_int ?_ | with_reducible refine wg_intB ?_ | with_reducible refine wg_abs ?_ | with_reducible refine wg_max2 ?_ | with_reducible refine wg_min2 ?_ | with_reducible refine wg_reprB ?_ | with_reducible refine wg_itL ?_ | with_reducible refine wg_itT ?_ | with_reducible refine wg_itC ?_ | with_reducible refine wg_itS ?_ | with_reducible refine wg_slL ?_ | with_reducible refine wg_slT ?_ | with_reducible refine wg_tupleL ?_ | with_reducible refine wg_tupleT ?_ | with_reducible refine wg_listL ?_ | with_reducible refine wg_listT ?_ | with_reducible refine wg_revL ?_ | with_reducible refine wg_revT ?_ | with_reducible refine wg_zipT ?_ | with_reducible refine wg_allM ?_ | with_reducible refine wg_anyM ?_ | with_reducible refine w_var (by with_unfolding_all rfl) ?_ | with_reducible refine wg_mul (Or.inr (by decide)) ?_ | with_reducible refine wg_mul (Or.inl (by decide)) ?_ | with_reducible refine wg_mod (by decide +kernel) ?_ | with_reducible refine wg_fdiv (by decide) ?_ | with_reducible refine wg_pow (by decide +kernel) ?_ | with_reducible refine wg_tup (by simp; done) ?_ | with_reducible refine wg_lst (by simp; done) ?_ | with_reducible refine w_dieSet (by decide) ?_ | with_reducible refine w_dieAt (by decide) (fun _ => ?_) | refine ⟨_, rfl, ?_⟩ | refine ⟨rfl, ?_⟩))
          refine w_compM (fun d => .bl (isCount (-1) d)) ?_
          (repeat (first | with_reducible refine ws_seq ?_ | with_reducible refine ws_asg ?_ | with_reducible refine ws_ret ?_ | with_reducible refine ws_if ?_ | with_reducible refine ws_next ?_ | with_reducible refine ws_retN ?_ | with_reducible refine ws_brk ?_ | with_reducible refine ws_cont ?_ | with_reducible refine ws_drop ?_ | with_reducible refine ws_setI ?_ | with_reducible refine ws_for ?_ | with_reducible refine ws_par ?_ | with_reducible refine ws_frz ?_ | with_reducible refine ws_parO ?_ | with_reducible refine ws_setOwn ?_ | with_reducible refine ⟨fun _ => ?_, fun z => absurd rfl z⟩ | refine And.intro rt_nx fun _ => ?_ | refine And.intro bk_nx fun _ => ?_ | refine And.intro ct_nx fun _ => ?_ | with_reducible refine w_c2 ?_ | with_reducible refine w_c1 ?_ | with_reducible refine w_cA ?_ | with_reducible refine w_cons ?_ | with_reducible refine w_nil ?_ | with_reducible refine w_c ?_ | with_reducible refine w_call ?_ | with_reducible refine w_it ?_ | with_reducible refine w_rng1 ?_ | with_reducible refine w_rng2 ?_ | with_reducible refine w_m0 ?_ | with_reducible refine w_m1 ?_ | with_reducible refine w_sl ?_ | with_reducible refine w_part ?_ | with_reducible refine w_noP ?_ | with_reducible refine w_b ?_ | with_reducible refine w_notB ?_ | with_reducible refine w_if ?_ | with_reducible refine w_chain ?_ | with_reducible refine w_zip ?_ | with_reducible refine w_enum ?_ | with_reducible refine wg_add ?_ | with_reducible refine wg_sub ?_ | with_reducible refine wg_neg ?_ | with_reducible refine wg_lt ?_ | with_reducible refine wg_le ?_ | with_reducible refine wg_gt ?_ | with_reducible refine wg_ge ?_ | with_reducible refine wg_not ?_ | with_reducible refine wg_lenL ?_ | with_reducible refine wg_lenT ?_ | with_reducible refine wg_lenC ?_ | with_reducible refine wg_int ?_ | with_reducible refine wg_intB ?_ | with_reducible refine wg_abs ?_ | with_reducible refine wg_max2 ?_ | with_reducible refine wg_min2 ?_ | with_reducible refine wg_reprB ?_ | with_reducible refine wg_itL ?_ | with_reducible refine wg_itT ?_ | with_reducible refine wg_itC ?_ | with_reducible refine wg_itS ?_ | with_reducible refine wg_slL ?_ | with_reducible refine wg_slT ?_ | with_reducible refine wg_tupleL ?_ | with_reducible refine wg_tupleT ?_ | with_reducible refine wg_listL ?_ | with_reducible refine wg_listT ?_ | with_reducible refine wg_revL ?_ | with_reducible refine wg_revT ?_ | with_reducible refine wg_zipT ?_ | with_reducible refine wg_allM ?_ | with_reducible refine wg_anyM ?_ | with_reducible refine w_var (by with_unfolding_all rfl) ?_ | with_reducible refine wg_mul (Or.inr (by decide)) ?_ | with_reducible refine wg_mul (Or.inl (by decide)) ?_ | with_reducible refine wg_mod (by decide +kernel) ?_ | with_reducible refine wg_fdiv (by decide) ?_ | with_reducible refine wg_pow (by decide +kernel) ?_ | with_reducible refine wg_tup (by simp; done) ?_ | with_reducible refine wg_lst (by simp; done) ?_ | with_reducible refine w_dieSet (by decide) ?_ | with_reducible refine w_dieAt (by decide) (fun _ => ?_) | refine ⟨_, rfl, ?_⟩ | refine ⟨rfl, ?_⟩))
          refine ⟨by omega, fun d hd => ⟨_, rfl, ?_⟩, ?_⟩
          · (repeat (first | with_reducible refine ws_seq ?_ | with_reducible refine ws_asg ?_ | with_reducible refine ws_ret ?_ | with_reducible refine ws_if ?_ | with_reducible refine ws_next ?_ | with_reducible refine ws_retN ?_ | with_reducible refine ws_brk ?_ | with_reducible refine ws_cont ?_ | with_reducible refine ws_drop ?_ | with_reducible refine ws_setI ?_ | with_reducible refine ws_for ?_ | with_reducible refine ws_par ?_ | with_reducible refine ws_frz ?_ | with_reducible refine ws_parO ?_ | with_reducible refine ws_setOwn ?_ | with_reducible refine ⟨fun _ => ?_, fun z => absurd rfl z⟩ | refine And.intro rt_nx fun _ => ?_ | refine And.intro bk_nx fun _ => ?_ | refine And.intro ct_nx fun _ => ?_ | with_reducible refine w_c2 ?_ | with_reducible refine w_c1 ?_ | with_reducible refine w_cA ?_ | with_reducible refine w_cons ?_ | with_reducible refine w_nil ?_ | with_reducible refine w_c ?_ | with_reducible refine w_call ?_ | with_reducible refine w_it ?_ | with_reducible refine w_rng1 ?_ | with_reducible refine w_rng2 ?_ | with_reducible refine w_m0 ?_ | with_reducible refine w_m1 ?_ | with_reducible refine w_sl ?_ | with_reducible refine w_part ?_ | with_reducible refine w_noP ?_ | with_reducible refine w_b ?_ | with_reducible refine w_notB ?_ | with_reducible refine w_if ?_ | with_reducible refine w_chain ?_ | with_reducible refine w_zip ?_ | with_reducible refine w_enum ?_ | with_reducible refine wg_add ?_ | with_reducible refine wg_sub ?_ | with_reducible refine wg_neg ?_ | with_reducible refine wg_lt ?_ | with_reducible refine wg_le ?_ | with_reducible refine wg_gt ?_ | with_reducible refine wg_ge ?_ | with_reducible refine wg_not ?_ | with_reducible refine wg_lenL ?_ | with_reducible refine wg_lenT ?_ | with_reducible refine wg_lenC ?_ | with_reducible refine wg_int ?_ | with_reducible refine wg_intB ?_ | with_reducible refine wg_abs ?_ | with_reducible refine wg_max2 ?_ | with_reducible refine wg_min2 ?_ | with_reducible refine wg_reprB ?_ | with_reducible refine wg_itL ?_ | with_reducible refine wg_itT ?_ | with_reducible refine wg_itC ?_ | with_reducible refine wg_itS ?_ | with_reducible refine wg_slL ?_ | with_reducible refine wg_slT ?_ | with_reducible refine wg_tupleL ?_ | with_reducible refine wg_tupleT ?_ | with_reducible refine wg_listL ?_ | with_reducible refine wg_listT ?_ | with_reducible refine wg_revL ?_ | with_reducible refine wg_revT ?_ | with_reducible refine wg_zipT ?_ | with_reducible refine wg_allM ?_ | with_reducible refine wg_anyM ?_ | with_reducible refine w_var (by with_unfolding_all rfl) ?_ | with_reducible refine wg_mul (Or.inr (by decide)) ?_ | with_reducible refine wg_mul (Or.inl (by decide)) ?_ | with_reducible refine wg_mod (by decide +kernel) ?_ | with_reducible refine wg_fdiv (by decide) ?_ | with_reducible refine wg_pow (by decide +kernel) ?_ | with_reducible refine wg_tup (by simp; done) ?_ | with_reducible refine wg_lst (by simp; done) ?_ | with_reducible refine w_dieSet (by decide) ?_ | with_reducible refine w_dieAt (by decide) (fun _ => ?_) | refine ⟨_, rfl, ?_⟩ | refine ⟨rfl, ?_⟩))
            exact w_is_count (hx d hd)
          · (repeat (first | with_reducible refine ws_seq ?_ | with_reducible refine ws_asg ?_ | with_reducible refine ws_ret ?_ | with_reducible refine ws_if ?_ | with_reducible refine ws_next ?_ | with_reducible refine ws_retN ?_ | with_reducible refine ws_brk ?_ | with_reducible refine ws_cont ?_ | with_reducible refine ws_drop ?_ | with_reducible refine ws_setI ?_ | with_reducible refine ws_for ?_ | with_reducible refine ws_par ?_ | with_reducible refine ws_frz ?_ | with_reducible refine ws_parO ?_ | with_reducible refine ws_setOwn ?_ | with_reducible refine ⟨fun _ => ?_, fun z => absurd rfl z⟩ | refine And.intro rt_nx fun _ => ?_ | refine And.intro bk_nx fun _ => ?_ | refine And.intro ct_nx fun _ => ?_ | with_reducible refine w_c2 ?_ | with_reducible refine w_c1 ?_ | with_reducible refine w_cA ?_ | with_reducible refine w_cons ?_ | with_reducible refine w_nil ?_ | with_reducible refine w_c ?_ | with_reducible refine w_call ?_ | with_reducible refine w_it ?_ | with_reducible refine w_rng1 ?_ | with_reducible refine w_rng2 ?_ | with_reducible refine w_m0 ?_ | with_reducible refine w_m1 ?_ | with_reducible refine w_sl ?_ | with_reducible refine w_part ?_ | with_reducible refine w_noP ?_ | with_reducible refine w_b ?_ | with_reducible refine w_notB ?_ | with_reducible refine w_if ?_ | with_reducible refine w_chain ?_ | with_reducible refine w_zip ?_ | with_reducible refine w_enum ?_ | with_reducible refine wg_add ?_ | with_reducible refine wg_sub ?_ | with_reducible refine wg_neg ?_ | with_reducible refine wg_lt ?_ | with_reducible refine wg_le ?_ | with_reducible refine wg_gt ?_ | with_reducible refine wg_ge ?_ | with_reducible refine wg_not ?_ | with_reducible refine wg_lenL ?_ | with_reducible refine wg_lenT ?_ | with_reducible refine wg_lenC ?_ | with_reducible refine wg_int ?_ | with_reducible refine wg_intB ?_ | with_reducible refine wg_abs ?_ | with_reducible refine wg_max2 ?_ | with_reducible refine wg_min2 ?_ | with_reducible refine wg_reprB ?_ | with_reducible refine wg_itL ?_ | with_reducible refine wg_itT ?_ | with_reducible refine wg_itC ?_ | with_reducible refine wg_itS ?_ | with_reducible refine wg_slL ?_ | with_reducible refine wg_slT ?_ | with_reducible refine wg_tupleL ?_ | with_reducible refine wg_tupleT ?_ | with_reducible refine wg_listL ?_ | with_reducible refine wg_listT ?_ | with_reducible refine wg_revL ?_ | with_reducible refine wg_revT ?_ | with_reducible refine wg_zipT ?_ | with_reducible refine wg_allM ?_ | with_reducible refine wg_anyM ?_ | with_reducible refine w_var (by with_unfolding_all rfl) ?_ | with_reducible refine wg_mul (Or.inr (by decide)) ?_ | with_reducible refine wg_mul (Or.inl (by decide)) ?_ | with_reducible refine wg_mod (by decide +kernel) ?_ | with_reducible refine wg_fdiv (by decide) ?_ | with_reducible refine wg_pow (by decide +kernel) ?_ | with_reducible refine wg_tup (by simp; done) ?_ | with_reducible refine wg_lst (by simp; done) ?_ | with_reducible refine w_dieSet (by decide) ?_ | with_reducible refine w_dieAt (by decide) (fun _ => ?_) | refine ⟨_, rfl, ?_⟩ | refine ⟨rfl, ?_⟩))
            simp [isBagOf, h2, h1]
        · rw [decide_eq_false h2]
          refine ⟨fun _ => ?_, fun z => (nomatch z)⟩
          (repeat (first | with_reducible refine ws_seq ?_ | with_reducible refine ws_asg ?_ | with_reducible refine ws_ret ?_ | with_reducible refine ws_if ?_ | with_reducible refine ws_next ?_ | with_reducible refine ws_retN ?_ | with_reducible refine ws_brk ?_ | with_reducible refine ws_cont ?_ | with_reducible refine ws_drop ?_ | with_reducible refine ws_setI ?_ | with_reducible refine ws_for ?_ | with_reducible refine ws_par ?_ | with_reducible refine ws_frz ?_ | with_reducible refine ws_parO ?_ | with_reducible refine ws_setOwn ?_ | with_reducible refine ⟨fun _ => ?_, fun z => absurd rfl z⟩ | refine And.intro rt_nx fun _ => ?_ | refine And.intro bk_nx fun _ => ?_ | refine And.intro ct_nx fun _ => ?_ | with_reducible refine w_c2 ?_ | with_reducible refine w_c1 ?_ | with_reducible refine w_cA ?_ | with_reducible refine w_cons ?_ | with_reducible refine w_nil ?_ | with_reducible refine w_c ?_ | with_reducible refine w_call ?_ | with_reducible refine w_it ?_ | with_reducible refine w_rng1 ?_ | with_reducible refine w_rng2 ?_ | with_reducible refine w_m0 ?_ | with_reducible refine w_m1 ?_ | with_reducible refine w_sl ?_ | with_reducible refine w_part ?_ | with_reducible refine w_noP ?_ | with_reducible refine w_b ?_ | with_reducible refine w_notB ?_ | with_reducible refine w_if ?_ | with_reducible refine w_chain ?_ | with_reducible refine w_zip ?_ | with_reducible refine w_enum ?_ | with_reducible refine wg_add ?_ | with_reducible refine wg_sub ?_ | with_reducible refine wg_neg ?_ | with_reducible refine wg_lt ?_ | with_reducible refine wg_le ?_ | with_reducible refine wg_gt ?_ | with_reducible refine wg_ge ?_ | with_reducible refine wg_not ?_ | with_reducible refine wg_lenL ?_ | with_reducible refine wg_lenT ?_ | with_reducible refine wg_lenC ?_ | with_reducible refine wg_int ?_ | with_reducible refine wg_intB ?_ | with_reducible refine wg_abs ?_ | with_reducible refine wg_max2 ?_ | with_reducible refine wg_min2 ?_ | with_reducible refine wg_reprB ?_ | with_reducible refine wg_itL ?_ | with_reducible refine wg_itT ?_ | with_reducible refine wg_itC ?_ | with_reducible refine wg_itS ?_ | with_reducible refine wg_slL ?_ | with_reducible refine wg_slT ?_ | with_reducible refine wg_tupleL ?_ | with_reducible refine wg_tupleT ?_ | with_reducible refine wg_listL ?_ | with_reducible refine wg_listT ?_ | with_reducible refine wg_revL ?_ | with_reducible refine wg_revT ?_ | with_reducible refine wg_zipT ?_ | with_reducible refine wg_allM ?_ | with_reducible refine wg_anyM ?_ | with_reducible refine w_var (by with_unfolding_all rfl) ?_ | with_reducible refine wg_mul (Or.inr (by decide)) ?_ | with_reducible refine wg_mul (Or.inl (by decide)) ?_ | with_reducible refine wg_mod (by decide +kernel) ?_ | with_reducible refine wg_fdiv (by decide) ?_ | with_reducible refine wg_pow (by decide +kernel) ?_ | with_reducible refine wg_tup (by simp; done) ?_ | with_reducible refine wg_lst (by simp; done) ?_ | with_reducible refine w_dieSet (by decide) ?_ | with_reducible refine w_dieAt (by decide) (fun _ => ?_) | refine ⟨_, rfl, ?_⟩ | refine ⟨rfl, ?_⟩))
          simp [isBagOf, h2]
      · rw [decide_eq_false h1]
        refine ⟨fun z => (nomatch z), fun _ => ?_⟩
        (repeat (first | with_reducible refine ws_seq ?_ | with_reducible refine ws_asg ?_ | with_reducible refine ws_ret ?_ | with_reducible refine ws_if ?_ | with_reducible refine ws_next ?_ | with_reducible refine ws_retN ?_ | with_reducible refine ws_brk ?_ | with_reducible refine ws_cont ?_ | with_reducible refine ws_drop ?_ | with_reducible refine ws_setI ?_ | with_reducible refine ws_for ?_ | with_reducible refine ws_par ?_ | with_reducible refine ws_frz ?_ | with_reducible refine ws_parO ?_ | with_reducible refine ws_setOwn ?_ | with_reducible refine ⟨fun _ => ?_, fun z => absurd rfl z⟩ | refine And.intro rt_nx fun _ => ?_ | refine And.intro bk_nx fun _ => ?_ | refine And.intro ct_nx fun _ => ?_ | with_reducible refine w_c2 ?_ | with_reducible refine w_c1 ?_ | with_reducible refine w_cA ?_ | with_reducible refine w_cons ?_ | with_reducible refine w_nil ?_ | with_reducible refine w_c ?_ | with_reducible refine w_call ?_ | with_reducible refine w_it ?_ | with_reducible refine w_rng1 ?_ | with_reducible refine w_rng2 ?_ | with_reducible refine w_m0 ?_ | with_reducible refine w_m1 ?_ | with_reducible refine w_sl ?_ | with_reducible refine w_part ?_ | with_reducible refine w_noP ?_ | with_reducible refine w_b ?_ | with_reducible refine w_notB ?_ | with_reducible refine w_if ?_ | with_reducible refine w_chain ?_ | with_reducible refine w_zip ?_ | with_reducible refine w_enum ?_ | with_reducible refine wg_add ?_ | with_reducible refine wg_sub ?_ | with_reducible refine wg_neg ?_ | with_reducible refine wg_lt ?_ | with_reducible refine wg_le ?_ | with_reducible refine wg_gt ?_ | with_reducible refine wg_ge ?_ | with_reducible refine wg_not ?_ | with_reducible refine wg_lenL ?_ | with_reducible refine wg_lenT ?_ | with_reducible refine wg_lenC ?_ | with_reducible refine wg_int ?_ | with_reducible refine wg_intB ?_ | with_reducible refine wg_abs ?_ | with_reducible refine wg_max2 ?_ | with_reducible refine wg_min2 ?_ | with_reducible refine wg_reprB ?_ | with_reducible refine wg_itL ?_ | with_reducible refine wg_itT ?_ | with_reducible refine wg_itC ?_ | with_reducible refine wg_itS ?_ | with_reducible refine wg_slL ?_ | with_reducible refine wg_slT ?_ | with_reducible refine wg_tupleL ?_ | with_reducible refine wg_tupleT ?_ | with_reducible refine wg_listL ?_ | with_reducible refine wg_listT ?_ | with_reducible refine wg_revL ?_ | with_reducible refine wg_revT ?_ | with_reducible refine wg_zipT ?_ | with_reducible refine wg_allM ?_ | with_reducible refine wg_anyM ?_ | with_reducible refine w_var (by with_unfolding_all rfl) ?_ | with_reducible refine wg_mul (Or.inr (by decide)) ?_ | with_reducible refine wg_mul (Or.inl (by decide)) ?_ | with_reducible refine wg_mod (by decide +kernel) ?_ | with_reducible refine wg_fdiv (by decide) ?_ | with_reducible refine wg_pow (by decide +kernel) ?_ | with_reducible refine wg_tup (by simp; done) ?_ | with_reducible refine wg_lst (by simp; done) ?_ | with_reducible refine w_dieSet (by decide) ?_ | with_reducible refine w_dieAt (by decide) (fun _ => ?_) | refine ⟨_, rfl, ?_⟩ | refine ⟨rfl, ?_⟩))
        refine ⟨fun _ => ?_, fun z => (nomatch z)⟩
        (repeat (first | with_reducible refine ws_seq ?_ | with_reducible refine ws_asg ?_ | with_reducible refine ws_ret ?_ | with_reducible refine ws_if ?_ | with_reducible refine ws_next ?_ | with_reducible refine ws_retN ?_ | with_reducible refine ws_brk ?_ | with_reducible refine ws_cont ?_ | with_reducible refine ws_drop ?_ | with_reducible refine ws_setI ?_ | with_reducible refine ws_for ?_ | with_reducible refine ws_par ?_ | with_reducible refine ws_frz ?_ | with_reducible refine ws_parO ?_ | with_reducible refine ws_setOwn ?_ | with_reducible refine ⟨fun _ => ?_, fun z => absurd rfl z⟩ | refine And.intro rt_nx fun _ => ?_ | refine And.intro bk_nx fun _ => ?_ | refine And.intro ct_nx fun _ => ?_ | with_reducible refine w_c2 ?_ | with_reducible refine w_c1 ?_ | with_reducible refine w_cA ?_ | with_reducible refine w_cons ?_ | with_reducible refine w_nil ?_ | with_reducible refine w_c ?_ | with_reducible refine w_call ?_ | with_reducible refine w_it ?_ | with_reducible refine w_rng1 ?_ | with_reducible refine w_rng2 ?_ | with_reducible refine w_m0 ?_ | with_reducible refine w_m1 ?_ | with_reducible refine w_sl ?_ | with_reducible refine w_part ?_ | with_reducible refine w_noP ?_ | with_reducible refine w_b ?_ | with_reducible refine w_notB ?_ | with_reducible refine w_if ?_ | with_reducible refine w_chain ?_ | with_reducible refine w_zip ?_ | with_reducible refine w_enum ?_ | with_reducible refine wg_add ?_ | with_reducible refine wg_sub ?_ | with_reducible refine wg_neg ?_ | with_reducible refine wg_lt ?_ | with_reducible refine wg_le ?_ | with_reducible refine wg_gt ?_ | with_reducible refine wg_ge ?_ | with_reducible refine wg_not ?_ | with_reducible refine wg_lenL ?_ | with_reducible refine wg_lenT ?_ | with_reducible refine wg_lenC ?_ | with_reducible refine wg_int ?_ | with_reducible refine wg_intB ?_ | with_reducible refine wg_abs ?_ | with_reducible refine wg_max2 ?_ | with_reducible refine wg_min2 ?_ | with_reducible refine wg_reprB ?_ | with_reducible refine wg_itL ?_ | with_reducible refine wg_itT ?_ | with_reducible refine wg_itC ?_ | with_reducible refine wg_itS ?_ | with_reducible refine wg_slL ?_ | with_reducible refine wg_slT ?_ | with_reducible refine wg_tupleL ?_ | with_reducible refine wg_tupleT ?_ | with_reducible refine wg_listL ?_ | with_reducible refine wg_listT ?_ | with_reducible refine wg_revL ?_ | with_reducible refine wg_revT ?_ | with_reducible refine wg_zipT ?_ | with_reducible refine wg_allM ?_ | with_reducible refine wg_anyM ?_ | with_reducible refine w_var (by with_unfolding_all rfl) ?_ | with_reducible refine wg_mul (Or.inr (by decide)) ?_ | with_reducible refine wg_mul (Or.inl (by decide)) ?_ | with_reducible refine wg_mod (by decide +kernel) ?_ | with_reducible refine wg_fdiv (by decide) ?_ | with_reducible refine wg_pow (by decide +kernel) ?_ | with_reducible refine wg_tup (by simp; done) ?_ | with_reducible refine wg_lst (by simp; done) ?_ | with_reducible refine w_dieSet (by decide) ?_ | with_reducible refine w_dieAt (by decide) (fun _ => ?_) | refine ⟨_, rfl, ?_⟩ | refine ⟨rfl, ?_⟩))
        simp [isBagOf, h1]
    | _ => cases h
  · refine ⟨fun _ => ?_, fun z => ?_⟩
    · (repeat (first | with_reducible refine ws_seq ?_ | with_reducible refine ws_asg ?_ | with_reducible refine ws_ret ?_ | with_reducible refine ws_if ?_ | with_reducible refine ws_next ?_ | with_reducible refine ws_retN ?_ | with_reducible refine ws_brk ?_ | with_reducible refine ws_cont ?_ | with_reducible refine ws_drop ?_ | with_reducible refine ws_setI ?_ | with_reducible refine ws_for ?_ | with_reducible refine ws_par ?_ | with_reducible refine ws_frz ?_ | with_reducible refine ws_parO ?_ | with_reducible refine ws_setOwn ?_ | with_reducible refine ⟨fun _ => ?_, fun z => absurd rfl z⟩ | refine And.intro rt_nx fun _ => ?_ | refine And.intro bk_nx fun _ => ?_ | refine And.intro ct_nx fun _ => ?_ | with_reducible refine w_c2 ?_ | with_reducible refine w_c1 ?_ | with_reducible refine w_cA ?_ | with_reducible refine w_cons ?_ | with_reducible refine w_nil ?_ | with_reducible refine w_c ?_ | with_reducible refine w_call ?_ | with_reducible refine w_it ?_ | with_reducible refine w_rng1 ?_ | with_reducible refine w_rng2 ?_ | with_reducible refine w_m0 ?_ | with_reducible refine w_m1 ?_ | with_reducible refine w_sl ?_ | with_reducible refine w_part ?_ | with_reducible refine w_noP ?_ | with_reducible refine w_b ?_ | with_reducible refine w_notB ?_ | with_reducible refine w_if ?_ | with_reducible refine w_chain ?_ | with_reducible refine w_zip ?_ | with_reducible refine w_enum ?_ | with_reducible refine wg_add ?_ | with_reducible refine wg_sub ?_ | with_reducible refine wg_neg ?_ | with_reducible refine wg_lt ?_ | with_reducible refine wg_le ?_ | with_reducible refine wg_gt ?_ | with_reducible refine wg_ge ?_ | with_reducible refine wg_not ?_ | with_reducible refine wg_lenL ?_ | with_reducible refine wg_lenT ?_ | with_reducible refine wg_lenC ?_ | with_reducible refine wg_int ?_ | with_reducible refine wg_intB ?_ | with_reducible refine wg_abs ?_ | with_reducible refine wg_max2 ?_ | with_reducible refine wg_min2 ?_ | with_reducible refine wg_reprB ?_ | with_reducible refine wg_itL ?_ | with_reducible refine wg_itT ?_ | with_reducible refine wg_itC ?_ | with_reducible refine wg_itS ?_ | with_reducible refine wg_slL ?_ | with_reducible refine wg_slT ?_ | with_reducible refine wg_tupleL ?_ | with_reducible refine wg_tupleT ?_ | with_reducible refine wg_listL ?_ | with_reducible refine wg_listT ?_ | with_reducible refine wg_revL ?_ | with_reducible refine wg_revT ?_ | with_reducible refine wg_zipT ?_ | with_reducible refine wg_allM ?_ | with_reducible refine wg_anyM ?_ | with_reducible refine w_var (by with_unfolding_all rfl) ?_ | with_reducible refine wg_mul (Or.inr (by decide)) ?_ | with_reducible refine wg_mul (Or.inl (by decide)) ?_ | with_reducible refine wg_mod (by decide +kernel) ?_ | with_reducible refine wg_fdiv (by decide) ?_ | with_reducible refine wg_pow (by decide +kernel) ?_ | with_reducible refine wg_tup (by simp; done) ?_ | with_reducible refine wg_lst (by simp; done) ?_ | with_reducible refine w_dieSet (by decide) ?_ | with_reducible refine w_dieAt (by decide) (fun _ => ?_) | refine ⟨_, rfl, ?_⟩ | refine ⟨rfl, ?_⟩))
      cases d <;> first | rfl | cases h
    · exact (nomatch z)
theorem w_entry {a b : Int} : Wp I (F_is_entry_within [.int a, .int b]) (fun r => r = .bl (leW a b)) X := by
  refine w_def rfl ?_
  unfold b_is_entry_within
  (repeat (first | with_reducible refine ws_seq ?_ | with_reducible refine ws_asg ?_ | with_reducible refine ws_ret ?_ | with_reducible refine ws_if ?_ | with_reducible refine ws_next ?_ | with_reducible refine ws_retN ?_ | with_reducible refine ws_brk ?_ | with_reducible refine ws_cont ?_ | with_reducible refine ws_drop ?_ | with_reducible refine ws_setI ?_ | with_reducible refine ws_for ?_ | with_reducible refine ws_par ?_ | with_reducible refine ws_frz ?_ | with_reducible refine ws_parO ?_ | with_reducible refine ws_setOwn ?_ | with_reducible refine ⟨fun _ => ?_, fun z => absurd rfl z⟩ | refine And.intro rt_nx fun _ => ?_ | refine And.intro bk_nx fun _ => ?_ | refine And.intro ct_nx fun _ => ?_ | with_reducible refine w_c2 ?_ | with_reducible refine w_c1 ?_ | with_reducible refine w_cA ?_ | with_reducible refine w_cons ?_ | with_reducible refine w_nil ?_ | with_reducible refine w_c ?_ | with_reducible refine w_call ?_ | with_reducible refine w_it ?_ | with_reducible refine w_rng1 ?_ | with_reducible refine w_rng2 ?_ | with_reducible refine w_m0 ?_ | with_reducible refine w_m1 ?_ | with_reducible refine w_sl ?_ | with_reducible refine w_part ?_ | with_reducible refine w_noP ?_ | with_reducible refine w_b ?_ | with_reducible refine w_notB ?_ | with_reducible refine w_if ?_ | with_reducible refine w_chain ?_ | with_reducible refine w_zip ?_ | with_reducible refine w_enum ?_ | with_reducible refine wg_add ?_ | with_reducible refine wg_sub ?_ | with_reducible refine wg_neg ?_ | with_reducible refine wg_lt ?_ | with_reducible refine wg_le ?_ | with_reducible refine wg_gt ?_ | with_reducible refine wg_ge ?_ | with_reducible refine wg_not ?_ | with_reducible refine wg_lenL ?_ | with_reducible refine wg_lenT ?_ | with_reducible refine wg_lenC ?_ | with_reducible refine wg_int ?_ | with_reducible refine wg_intB ?_ | with_reducible refine wg_abs ?_ | with_reducible refine wg_max2 ?_ | with_reducible refine wg_min2 ?_ | with_reducible refine wg_reprB ?_ | with_reducible refine wg_itL ?_ | with_reducible refine wg_itT ?_ | with_reducible refine wg_itC ?_ | with_reducible refine wg_itS ?_ | with_reducible refine wg_slL ?_ | with_reducible refine wg_slT ?_ | with_reducible refine wg_tupleL ?_ | with_reducible refine wg_tupleT ?_ | with_reducible refine wg_listL ?_ | with_reducible refine wg_listT ?_ | with_reducible refine wg_revL ?_ | with_reducible refine wg_revT ?_ | with_reducible refine wg_zipT ?_ | with_reducible refine wg_allM ?_ | with_reducible refine wg_anyM ?_ | with_reducible refine w_var (by with_unfolding_all rfl) ?_ | with_reducible refine wg_mul (Or.inr (by decide)) ?_ | with_reducible refine wg_mul (Or.inl (by decide)) ?_ | with_reducible refine wg_mod (by decide +kernel) ?_ | with_reducible refine wg_fdiv (by decide) ?_ | with_reducible refine wg_pow (by decide +kernel) ?_ | with_reducible refine wg_tup (by simp; done) ?_ | with_reducible refine wg_lst (by simp; done) ?_ | with_reducible refine w_dieSet (by decide) ?_ | with_reducible refine w_dieAt (by decide) (fun _ => ?_) | refine ⟨_, rfl, ?_⟩ | refine ⟨rfl, ?_⟩))
  refine w_orV ?_
  (repeat (first | with_reducible refine ws_seq ?_ | with_reducible refine ws_asg ?_ | with_reducible refine ws_ret ?_ | with_reducible refine ws_if ?_ | with_reducible refine ws_next ?_ | with_reducible refine ws_retN ?_ | with_reducible refine ws_brk ?_ | with_reducible refine ws_cont ?_ | with_reducible refine ws_drop ?_ | with_reducible refine ws_setI ?_ | with_reducible refine ws_for ?_ | with_reducible refine ws_par ?_ | with_reducible refine ws_frz ?_ | with_reducible refine ws_parO ?_ | with_reducible refine ws_setOwn ?_ | with_reducible refine ⟨fun _ => ?_, fun z => absurd rfl z⟩ | refine And.intro rt_nx fun _ => ?_ | refine And.intro bk_nx fun _ => ?_ | refine And.intro ct_nx fun _ => ?_ | with_reducible refine w_c2 ?_ | with_reducible refine w_c1 ?_ | with_reducible refine w_cA ?_ | with_reducible refine w_cons ?_ | with_reducible refine w_nil ?_ | with_reducible refine w_c ?_ | with_reducible refine w_call ?_ | with_reducible refine w_it ?_ | with_reducible refine w_rng1 ?_ | with_reducible refine w_rng2 ?_ | with_reducible refine w_m0 ?_ | with_reducible refine w_m1 ?_ | with_reducible refine w_sl ?_ | with_reducible refine w_part ?_ | with_reducible refine w_noP ?_ | with_reducible refine w_b ?_ | with_reducible refine w_notB ?_ | with_reducible refine w_if ?_ | with_reducible refine w_chain ?_ | with_reducible refine w_zip ?_ | with_reducible refine w_enum ?_ | with_reducible refine wg_add ?_ | with_reducible refine wg_sub ?_ | with_reducible refine wg_neg ?_ | with_reducible refine wg_lt ?_ | with_reducible refine wg_le ?_ | with_reducible refine wg_gt ?_ | with_reducible refine wg_ge ?_ | with_reducible refine wg_not ?_ | with_reducible refine wg_lenL ?_ | with_reducible refine wg_lenT ?_ | with_reducible refine wg_lenC ?_ | with_reducible refine wg_int ?_ | with_reducible refine wg_intB ?_ | with_reducible refine wg_abs ?_ | with_reducible refine wg_max2 ?_ | with_reducible refine wg_min2 ?_ | with_reducible refine wg_reprB ?_ | with_reducible refine wg_itL ?_ | with_reducible refine wg_itT ?_ | with_reducible refine wg_itC ?_ | with_reducible refine wg_itS ?_ | with_reducible refine wg_slL ?_ | with_reducible refine wg_slT ?_ | with_reducible refine wg_tupleL ?_ | with_reducible refine wg_tupleT ?_ | with_reducible refine wg_listL ?_ | with_reducible refine wg_listT ?_ | with_reducible refine wg_revL ?_ | with_reducible refine wg_revT ?_ | with_reducible refine wg_zipT ?_ | with_reducible refine wg_allM ?_ | with_reducible refine wg_anyM ?_ | with_reducible refine w_var (by with_unfolding_all rfl) ?_ | with_reducible refine wg_mul (Or.inr (by decide)) ?_ | with_reducible refine wg_mul (Or.inl (by decide)) ?_ | with_reducible refine wg_mod (by decide +kernel) ?_ | with_reducible refine wg_fdiv (by decide) ?_ | with_reducible refine wg_pow (by decide +kernel) ?_ | with_reducible refine wg_tup (by simp; done) ?_ | with_reducible refine wg_lst (by simp; done) ?_ | with_reducible refine w_dieSet (by decide) ?_ | with_reducible refine w_dieAt (by decide) (fun _ => ?_) | refine ⟨_, rfl, ?_⟩ | refine ⟨rfl, ?_⟩))
  refine wg_eqX (eqX_of (eqD_int _ _)) ?_
  refine ⟨_, rfl, fun h => ?_, fun h => ?_⟩
  · refine w_andV ?_
    (repeat (first | with_reducible refine ws_seq ?_ | with_reducible refine ws_asg ?_ | with_reducible refine ws_ret ?_ | with_reducible refine ws_if ?_ | with_reducible refine ws_next ?_ | with_reducible refine ws_retN ?_ | with_reducible refine ws_brk ?_ | with_reducible refine ws_cont ?_ | with_reducible refine ws_drop ?_ | with_reducible refine ws_setI ?_ | with_reducible refine ws_for ?_ | with_reducible refine ws_par ?_ | with_reducible refine ws_frz ?_ | with_reducible refine ws_parO ?_ | with_reducible refine ws_setOwn ?_ | with_reducible refine ⟨fun _ => ?_, fun z => absurd rfl z⟩ | refine And.intro rt_nx fun _ => ?_ | refine And.intro bk_nx fun _ => ?_ | refine And.intro ct_nx fun _ => ?_ | with_reducible refine w_c2 ?_ | with_reducible refine w_c1 ?_ | with_reducible refine w_cA ?_ | with_reducible refine w_cons ?_ | with_reducible refine w_nil ?_ | with_reducible refine w_c ?_ | with_reducible refine w_call ?_ | with_reducible refine w_it ?_ | with_reducible refine w_rng1 ?_ | with_reducible refine w_rng2 ?_ | with_reducible refine w_m0 ?_ | with_reducible refine w_m1 ?_ | with_reducible refine w_sl ?_ | with_reducible refine w_part ?_ | with_reducible refine w_noP ?_ | with_reducible refine w_b ?_ | with_reducible refine w_notB ?_ | with_reducible refine w_if ?_ | with_reducible refine w_chain ?_ | with_reducible refine w_zip ?_ | with_reducible refine w_enum ?_ | with_reducible refine wg_add ?_ | with_reducible refine wg_sub ?_ | with_reducible refine wg_neg ?_ | with_reducible refine wg_lt ?_ | with_reducible refine wg_le ?_ | with_reducible refine wg_gt ?_ | with_reducible refine wg_ge ?_ | with_reducible refine wg_not ?_ | with_reducible refine wg_lenL ?_ | with_reducible refine wg_lenT ?_ | with_reducible refine wg_lenC ?_ | with_reducible refine wg_int ?_ | with_reducible refine wg_intB ?_ | with_reducible refine wg_abs ?_ | with_reducible refine wg_max2 ?_ | with_reducible refine wg_min2 ?_ | with_reducible refine wg_reprB ?_ | with_reducible refine wg_itL ?_ | with_reducible refine wg_itT ?_ | with_reducible refine wg_itC ?_ | with_reducible refine wg_itS ?_ | with_reducible refine wg_slL ?_ | with_reducible refine wg_slT ?_ | with_reducible refine wg_tupleL ?_ | with_reducible refine wg_tupleT ?_ | with_reducible refine wg_listL ?_ | with_reducible refine wg_listT ?_ | with_reducible refine wg_revL ?_ | with_reducible refine wg_revT ?_ | with_reducible refine wg_zipT ?_ | with_reducible refine wg_allM ?_ | with_reducible refine wg_anyM ?_ | with_reducible refine w_var (by with_unfolding_all rfl) ?_ | with_reducible refine wg_mul (Or.inr (by decide)) ?_ | with_reducible refine wg_mul (Or.inl (by decide)) ?_ | with_reducible refine wg_mod (by decide +kernel) ?_ | with_reducible refine wg_fdiv (by decide) ?_ | with_reducible refine wg_pow (by decide +kernel) ?_ | with_reducible refine wg_tup (by simp; done) ?_ | with_reducible refine wg_lst (by simp; done) ?_ | with_reducible refine w_dieSet (by decide) ?_ | with_reducible refine w_dieAt (by decide) (fun _ => ?_) | refine ⟨_, rfl, ?_⟩ | refine ⟨rfl, ?_⟩))
    refine wg_ne (eqD_int _ _) ⟨_, rfl, fun h1 => ?_, fun h1 => ?_⟩
    · (repeat (first | with_reducible refine ws_seq ?_ | with_reducible refine ws_asg ?_ | with_reducible refine ws_ret ?_ | with_reducible refine ws_if ?_ | with_reducible refine ws_next ?_ | with_reducible refine ws_retN ?_ | with_reducible refine ws_brk ?_ | with_reducible refine ws_cont ?_ | with_reducible refine ws_drop ?_ | with_reducible refine ws_setI ?_ | with_reducible refine ws_for ?_ | with_reducible refine ws_par ?_ | with_reducible refine ws_frz ?_ | with_reducible refine ws_parO ?_ | with_reducible refine ws_setOwn ?_ | with_reducible refine ⟨fun _ => ?_, fun z => absurd rfl z⟩ | refine And.intro rt_nx fun _ => ?_ | refine And.intro bk_nx fun _ => ?_ | refine And.intro ct_nx fun _ => ?_ | with_reducible refine w_c2 ?_ | with_reducible refine w_c1 ?_ | with_reducible refine w_cA ?_ | with_reducible refine w_cons ?_ | with_reducible refine w_nil ?_ | with_reducible refine w_c ?_ | with_reducible refine w_call ?_ | with_reducible refine w_it ?_ | with_reducible refine w_rng1 ?_ | with_reducible refine w_rng2 ?_ | with_reducible refine w_m0 ?_ | with_reducible refine w_m1 ?_ | with_reducible refine w_sl ?_ | with_reducible refine w_part ?_ | with_reducible refine w_noP ?_ | with_reducible refine w_b ?_ | with_reducible refine w_notB ?_ | with_reducible refine w_if ?_ | with_reducible refine w_chain ?_ | with_reducible refine w_zip ?_ | with_reducible refine w_enum ?_ | with_reducible refine wg_add ?_ | with_reducible refine wg_sub ?_ | with_reducible refine wg_neg ?_ | with_reducible refine wg_lt ?_ | with_reducible refine wg_le ?_ | with_reducible refine wg_gt ?_ | with_reducible refine wg_ge ?_ | with_reducible refine wg_not ?_ | with_reducible refine wg_lenL ?_ | with_reducible refine wg_lenT ?_ | with_reducible refine wg_lenC ?_ | with_reducible refine wg_int ?_ | with_reducible refine wg_intB ?_ | with_reducible refine wg_abs ?_ | with_reducible refine wg_max2 ?_ | with_reducible refine wg_min2 ?_ | with_reducible refine wg_reprB ?_ | with_reducible refine wg_itL ?_ | with_reducible refine wg_itT ?_ | with_reducible refine wg_itC ?_ | with_reducible refine wg_itS ?_ | with_reducible refine wg_slL ?_ | with_reducible refine wg_slT ?_ | with_reducible refine wg_tupleL ?_ | with_reducible refine wg_tupleT ?_ | with_reducible refine wg_listL ?_ | with_reducible refine wg_listT ?_ | with_reducible refine wg_revL ?_ | with_reducible refine wg_revT ?_ | with_reducible refine wg_zipT ?_ | with_reducible refine wg_allM ?_ | with_reducible refine wg_anyM ?_ | with_reducible refine w_var (by with_unfolding_all rfl) ?_ | with_reducible refine wg_mul (Or.inr (by decide)) ?_ | with_reducible refine wg_mul (Or.inl (by decide)) ?_ | with_reducible refine wg_mod (by decide +kernel) ?_ | with_reducible refine wg_fdiv (by decide) ?_ | with_reducible refine wg_pow (by decide +kernel) ?_ | with_reducible refine wg_tup (by simp; done) ?_ | with_reducible refine wg_lst (by simp; done) ?_ | with_reducible refine w_dieSet (by decide) ?_ | with_reducible refine w_dieAt (by decide) (fun _ => ?_) | refine ⟨_, rfl, ?_⟩ | refine ⟨rfl, ?_⟩))
      show D.bl _ = D.bl _
      unfold leW
      rw [h, Bool.false_or, h1, Bool.true_and]
    · show D.bl _ = D.bl _
      unfold leW
      rw [h, Bool.false_or, h1, Bool.false_and]
  · show D.bl _ = D.bl _
    unfold leW
    rw [h, Bool.true_or]
def leD : D → Bool
  | .tup [.int a, .int b] => leW a b
  | _ => false
def addD : D → D
  | .tup [.int a, .int b] => .int (addW a b)
  | _ => .non
theorem mem_zip {xs ys : List Int} {d : D} (hd : d ∈ zipD (xs.map D.int) (ys.map D.int)) : ∃ a b, d = .tup [.int a, .int b] := by
  rw [zipD_ints] at hd
  obtain ⟨p, _, rfl⟩ := List.mem_map.mp hd
  exact ⟨_, _, rfl⟩
theorem w_plain {xs ys : List Int} (hl : xs.length ≤ 5) : Wp I (F_is_plain_within [bagD xs, bagD ys]) (fun r => r = .bl (within xs ys)) X := by
  refine w_def rfl ?_
  unfold b_is_plain_within bagD
  (repeat (first | with_reducible refine ws_seq ?_ | with_reducible refine ws_asg ?_ | with_reducible refine ws_ret ?_ | with_reducible refine ws_if ?_ | with_reducible refine ws_next ?_ | with_reducible refine ws_retN ?_ | with_reducible refine ws_brk ?_ | with_reducible refine ws_cont ?_ | with_reducible refine ws_drop ?_ | with_reducible refine ws_setI ?_ | with_reducible refine ws_for ?_ | with_reducible refine ws_par ?_ | with_reducible refine ws_frz ?_ | with_reducible refine ws_parO ?_ | with_reducible refine ws_setOwn ?_ | with_reducible refine ⟨fun _ => ?_, fun z => absurd rfl z⟩ | refine And.intro rt_nx fun _ => ?_ | refine And.intro bk_nx fun _ => ?_ | refine And.intro ct_nx fun _ => ?_ | with_reducible refine w_c2 ?_ | with_reducible refine w_c1 ?_ | with_reducible refine w_cA ?_ | with_reducible refine w_cons ?_ | with_reducible refine w_nil ?_ | with_reducible refine w_c ?_ | with_reducible refine w_call ?_ | with_reducible refine w_it ?_ | with_reducible refine w_rng1 ?_ | with_reducible refine w_rng2 ?_ | with_reducible refine w_m0 ?_ | with_reducible refine w_m1 ?_ | with_reducible refine w_sl ?_ | with_reducible refine w_part ?_ | with_reducible refine w_noP ?_ | with_reducible refine w_b ?_ | with_reducible refine w_notB ?_ | with_reducible refine w_if ?_ | with_reducible refine w_chain ?_ | with_reducible refine w_zip ?_ | with_reducible refine w_enum ?_ | with_reducible refine wg_add ?_ | with_reducible refine wg_sub ?_ | with_reducible refine wg_neg ?_ | with_reducible refine wg_lt ?_ | with_reducible refine wg_le ?_ | with_reducible refine wg_gt ?_ | with_reducible refine wg_ge ?_ | with_reducible refine wg_not ?_ | with_reducible refine wg_lenL ?_ | with_reducible refine wg_lenT ?_ | with_reducible refine wg_lenC ?_ | with_reducible refine wg_int ?_ | with_reducible refine wg_intB ?_ | with_reducible refine wg_abs ?_ | with_reducible refine wg_max2 ?_ | with_reducible refine wg_min2 ?_ | with_reducible refine wg_reprB ?_ | with_reducible refine wg_itL ?_ | with_reducible refine wg_itT ?_ | with_reducible refine wg_itC ?_ | with_reducible refine wg_itS ?_ | with_reducible refine wg_slL ?_ | with_reducible refine wg_slT ?_ | with_reducible refine wg_tupleL ?_ | with_reducible refine wg_tupleT ?_ | with_reducible refine wg_listL ?_ | with_reducible refine wg_listT ?_ | with_reducible refine wg_revL ?_ | with_reducible refine wg_revT ?_ | with_reducible refine wg_zipT ?_ | with_reducible refine wg_allM ?_ | with_reducible refine wg_anyM ?_ | with_reducible refine w_var (by with_unfolding_all rfl) ?_ | with_reducible refine wg_mul (Or.inr (by decide)) ?_ | with_reducible refine wg_mul (Or.inl (by decide)) ?_ | with_reducible refine wg_mod (by decide +kernel) ?_ | with_reducible refine wg_fdiv (by decide) ?_ | with_reducible refine wg_pow (by decide +kernel) ?_ | with_reducible refine wg_tup (by simp; done) ?_ | with_reducible refine wg_lst (by simp; done) ?_ | with_reducible refine w_dieSet (by decide) ?_ | with_reducible refine w_dieAt (by decide) (fun _ => ?_) | refine ⟨_, rfl, ?_⟩ | refine ⟨rfl, ?_⟩))
  refine w_compM (fun d => .bl (leD d)) ?_
  (repeat (first | with_reducible refine ws_seq ?_ | with_reducible refine ws_asg ?_ | with_reducible refine ws_ret ?_ | with_reducible refine ws_if ?_ | with_reducible refine ws_next ?_ | with_reducible refine ws_retN ?_ | with_reducible refine ws_brk ?_ | with_reducible refine ws_cont ?_ | with_reducible refine ws_drop ?_ | with_reducible refine ws_setI ?_ | with_reducible refine ws_for ?_ | with_reducible refine ws_par ?_ | with_reducible refine ws_frz ?_ | with_reducible refine ws_parO ?_ | with_reducible refine ws_setOwn ?_ | with_reducible refine ⟨fun _ => ?_, fun z => absurd rfl z⟩ | refine And.intro rt_nx fun _ => ?_ | refine And.intro bk_nx fun _ => ?_ | refine And.intro ct_nx fun _ => ?_ | with_reducible refine w_c2 ?_ | with_reducible refine w_c1 ?_ | with_reducible refine w_cA ?_ | with_reducible refine w_cons ?_ | with_reducible refine w_nil ?_ | with_reducible refine w_c ?_ | with_reducible refine w_call ?_ | with_reducible refine w_it ?_ | with_reducible refine w_rng1 ?_ | with_reducible refine w_rng2 ?_ | with_reducible refine w_m0 ?_ | with_reducible refine w_m1 ?_ | with_reducible refine w_sl ?_ | with_reducible refine w_part ?_ | with_reducible refine w_noP ?_ | with_reducible refine w_b ?_ | with_reducible refine w_notB ?_ | with_reducible refine w_if ?_ | with_reducible refine w_chain ?_ | with_reducible refine w_zip ?_ | with_reducible refine w_enum ?_ | with_reducible refine wg_add ?_ | with_reducible refine wg_sub ?_ | with_reducible refine wg_neg ?_ | with_reducible refine wg_lt ?_ | with_reducible refine wg_le ?_ | with_reducible refine wg_gt ?_ | with_reducible refine wg_ge ?_ | with_reducible refine wg_not ?_ | with_reducible refine wg_lenL ?_ | with_reducible refine wg_lenT ?_ | with_reducible refine wg_lenC ?_ | with_reducible refine wg_int ?_ | with_reducible refine wg_intB ?_ | with_reducible refine wg_abs ?_ | with_reducible refine wg_max2 ?_ | with_reducible refine wg_min2 ?_ | with_reducible refine wg_reprB ?_ | with_reducible refine wg_itL ?_ | with_reducible refine wg_itT ?_ | with_reducible refine wg_itC ?_ | with_reducible refine wg_itS ?_ | with_reducible refine wg_slL ?_ | with_reducible refine wg_slT ?_ | with_reducible refine wg_tupleL ?_ | with_reducible refine wg_tupleT ?_ | with_reducible refine wg_listL ?_ | with_reducible refine wg_listT ?_ | with_reducible refine wg_revL ?_ | with_reducible refine wg_revT ?_ | with_reducible refine wg_zipT ?_ | with_reducible refine wg_allM ?_ | with_reducible refine wg_anyM ?_ | with_reducible refine w_var (by with_unfolding_all rfl) ?_ | with_reducible refine wg_mul (Or.inr (by decide)) ?_ | with_reducible refine wg_mul (Or.inl (by decide)) ?_ | with_reducible refine wg_mod (by decide +kernel) ?_ | with_reducible refine wg_fdiv (by decide) ?_ | with_reducible refine wg_pow (by decide +kernel) ?_ | with_reducible refine wg_tup (by simp; done) ?_ | with_reducible refine wg_lst (by simp; done) ?_ | with_reducible refine w_dieSet (by decide) ?_ | with_reducible refine w_dieAt (by decide) (fun _ => ?_) | refine ⟨_, rfl, ?_⟩ | refine ⟨rfl, ?_⟩))
  refine ⟨?_, fun d hd => ?_, ?_⟩
  · rw [zipD_ints, List.length_map, List.length_zip, Nat.min_def]
    split <;> omega
  · obtain ⟨a, b, rfl⟩ := mem_zip hd
    refine ⟨_, rfl, ?_⟩
    (repeat (first | with_reducible refine ws_seq ?_ | with_reducible refine ws_asg ?_ | with_reducible refine ws_ret ?_ | with_reducible refine ws_if ?_ | with_reducible refine ws_next ?_ | with_reducible refine ws_retN ?_ | with_reducible refine ws_brk ?_ | with_reducible refine ws_cont ?_ | with_reducible refine ws_drop ?_ | with_reducible refine ws_setI ?_ | with_reducible refine ws_for ?_ | with_reducible refine ws_par ?_ | with_reducible refine ws_frz ?_ | with_reducible refine ws_parO ?_ | with_reducible refine ws_setOwn ?_ | with_reducible refine ⟨fun _ => ?_, fun z => absurd rfl z⟩ | refine And.intro rt_nx fun _ => ?_ | refine And.intro bk_nx fun _ => ?_ | refine And.intro ct_nx fun _ => ?_ | with_reducible refine w_c2 ?_ | with_reducible refine w_c1 ?_ | with_reducible refine w_cA ?_ | with_reducible refine w_cons ?_ | with_reducible refine w_nil ?_ | with_reducible refine w_c ?_ | with_reducible refine w_call ?_ | with_reducible refine w_it ?_ | with_reducible refine w_rng1 ?_ | with_reducible refine w_rng2 ?_ | with_reducible refine w_m0 ?_ | with_reducible refine w_m1 ?_ | with_reducible refine w_sl ?_ | with_reducible refine w_part ?_ | with_reducible refine w_noP ?_ | with_reducible refine w_b ?_ | with_reducible refine w_notB ?_ | with_reducible refine w_if ?_ | with_reducible refine w_chain ?_ | with_reducible refine w_zip ?_ | with_reducible refine w_enum ?_ | with_reducible refine wg_add ?_ | with_reducible refine wg_sub ?_ | with_reducible refine wg_neg ?_ | with_reducible refine wg_lt ?_ | with_reducible refine wg_le ?_ | with_reducible refine wg_gt ?_ | with_reducible refine wg_ge ?_ | with_reducible refine wg_not ?_ | with_reducible refine wg_lenL ?_ | with_reducible refine wg_lenT ?_ | with_reducible refine wg_lenC ?_ | with_reducible refine wg_int ?_ | with_reducible refine wg_intB ?_ | with_reducible refine wg_abs ?_ | with_reducible refine wg_max2 ?_ | with_reducible refine wg_min2 ?_ | with_reducible refine wg_reprB ?_ | with_reducible refine wg_itL ?_ | with_reducible refine wg_itT ?_ | with_reducible refine wg_itC ?_ | with_reducible refine wg_itS ?_ | with_reducible refine wg_slL ?_ | with_reducible refine wg_slT ?_ | with_reducible refine wg_tupleL ?_ | with_reducible refine wg_tupleT ?_ | with_reducible refine wg_listL ?_ | with_reducible refine wg_listT ?_ | with_reducible refine wg_revL ?_ | with_reducible refine wg_revT ?_ | with_reducible refine wg_zipT ?_ | with_reducible refine wg_allM ?_ | with_reducible refine wg_anyM ?_ | with_reducible refine w_var (by with_unfolding_all rfl) ?_ | with_reducible refine wg_mul (Or.inr (by decide)) ?_ | with_reducible refine wg_mul (Or.inl (by decide)) ?_ | with_reducible refine wg_mod (by decide +kernel) ?_ | with_reducible refine wg_fdiv (by decide) ?_ | with_reducible refine wg_pow (by decide +kernel) ?_ | with_reducible refine wg_tup (by simp; done) ?_ | with_reducible refine wg_lst (by simp; done) ?_ | with_reducible refine w_dieSet (by decide) ?_ | with_reducible refine w_dieAt (by decide) (fun _ => ?_) | refine ⟨_, rfl, ?_⟩ | refine ⟨rfl, ?_⟩))
    exact w_entry
  · (repeat (first | with_reducible refine ws_seq ?_ | with_reducible refine ws_asg ?_ | with_reducible refine ws_ret ?_ | with_reducible refine ws_if ?_ | with_reducible refine ws_next ?_ | with_reducible refine ws_retN ?_ | with_reducible refine ws_brk ?_ | with_reducible refine ws_cont ?_ | with_reducible refine ws_drop ?_ | with_reducible refine ws_setI ?_ | with_reducible refine ws_for ?_ | with_reducible refine ws_par ?_ | with_reducible refine ws_frz ?_ | with_reducible refine ws_parO ?_ | with_reducible refine ws_setOwn ?_ | with_reducible refine ⟨fun _ => ?_, fun z => absurd rfl z⟩ | refine And.intro rt_nx fun _ => ?_ | refine And.intro bk_nx fun _ => ?_ | refine And.intro ct_nx fun _ => ?_ | with_reducible refine w_c2 ?_ | with_reducible refine w_c1 ?_ | with_reducible refine w_cA ?_ | with_reducible refine w_cons ?_ | with_reducible refine w_nil ?_ | with_reducible refine w_c ?_ | with_reducible refine w_call ?_ | with_reducible refine w_it ?_ | with_reducible refine w_rng1 ?_ | with_reducible refine w_rng2 ?_ | with_reducible refine w_m0 ?_ | with_reducible refine w_m1 ?_ | with_reducible refine w_sl ?_ | with_reducible refine w_part ?_ | with_reducible refine w_noP ?_ | with_reducible refine w_b ?_ | with_reducible refine w_notB ?_ | with_reducible refine w_if ?_ | with_reducible refine w_chain ?_ | with_reducible refine w_zip ?_ | with_reducible refine w_enum ?_ | with_reducible refine wg_add ?_ | with_reducible refine wg_sub ?_ | with_reducible refine wg_neg ?_ | with_reducible refine wg_lt ?_ | with_reducible refine wg_le ?_ | with_reducible refine wg_gt ?_ | with_reducible refine wg_ge ?_ | with_reducible refine wg_not ?_ | with_reducible refine wg_lenL ?_ | with_reducible refine wg_lenT ?_ | with_reducible refine wg_lenC ?_ | with_reducible refine wg_int ?_ | with_reducible refine wg_intB ?_ | with_reducible refine wg_abs ?_ | with_reducible refine wg_max2 ?_ | with_reducible refine wg_min2 ?_ | with_reducible refine wg_reprB ?_ | with_reducible refine wg_itL ?_ | with_reducible refine wg_itT ?_ | with_reducible refine wg_itC ?_ | with_reducible refine wg_itS ?_ | with_reducible refine wg_slL ?_ | with_reducible refine wg_slT ?_ | with_reducible refine wg_tupleL ?_ | with_reducible refine wg_tupleT ?_ | with_reducible refine wg_listL ?_ | with_reducible refine wg_listT ?_ | with_reducible refine wg_revL ?_ | with_reducible refine wg_revT ?_ | with_reducible refine wg_zipT ?_ | with_reducible refine wg_allM ?_ | with_reducible refine wg_anyM ?_ | with_reducible refine w_var (by with_unfolding_all rfl) ?_ | with_reducible refine wg_mul (Or.inr (by decide)) ?_ | with_reducible refine wg_mul (Or.inl (by decide)) ?_ | with_reducible refine wg_mod (by decide +kernel) ?_ | with_reducible refine wg_fdiv (by decide) ?_ | with_reducible refine wg_pow (by decide +kernel) ?_ | with_reducible refine wg_tup (by simp; done) ?_ | with_reducible refine wg_lst (by simp; done) ?_ | with_reducible refine w_dieSet (by decide) ?_ | with_reducible refine w_dieAt (by decide) (fun _ => ?_) | refine ⟨_, rfl, ?_⟩ | refine ⟨rfl, ?_⟩))
    show D.bl _ = D.bl _
    rw [zipD_ints, List.all_map]
    rfl
theorem inP_two (a b : Int) : inD (.int (-1)) (.tup [.int a, .int b]) = some (decide (a = -1 ∨ b = -1)) := by
  have e : ∀ k : Int, toP (.int k) = some (.int k) := fun k => by unfold toP; rfl
  have e2 : toPs [.int a, .int b] = some [.int a, .int b] := toPs_ints [a, b]
  show inP (.int (-1)) [.int a, .int b] = _
  unfold inP
  rw [e, e2]
  dsimp only
  rw [if_pos ⟨rfl, rfl, rfl⟩]
  show some ((a == -1) || ((b == -1) || false)) = _
  by_cases h1 : a = -1 <;> by_cases h2 : b = -1 <;> simp [h1, h2]
theorem w_sum {xs ys : List Int} (hl : xs.length ≤ 5) : Wp I (F_sum_of [bagD xs, bagD ys]) (fun r => r = bagD (sumW xs ys)) X := by
  refine w_def rfl ?_
  unfold b_sum_of bagD
  (repeat (first | with_reducible refine ws_seq ?_ | with_reducible refine ws_asg ?_ | with_reducible refine ws_ret ?_ | with_reducible refine ws_if ?_ | with_reducible refine ws_next ?_ | with_reducible refine ws_retN ?_ | with_reducible refine ws_brk ?_ | with_reducible refine ws_cont ?_ | with_reducible refine ws_drop ?_ | with_reducible refine ws_setI ?_ | with_reducible refine ws_for ?_ | with_reducible refine ws_par ?_ | with_reducible refine ws_frz ?_ | with_reducible refine ws_parO ?_ | with_reducible refine ws_setOwn ?_ | with_reducible refine ⟨fun _ => ?_, fun z => absurd rfl z⟩ | refine And.intro rt_nx fun _ => ?_ | refine And.intro bk_nx fun _ => ?_ | refine And.intro ct_nx fun _ => ?_ | with_reducible refine w_c2 ?_ | with_reducible refine w_c1 ?_ | with_reducible refine w_cA ?_ | with_reducible refine w_cons ?_ | with_reducible refine w_nil ?_ | with_reducible refine w_c ?_ | with_reducible refine w_call ?_ | with_reducible refine w_it ?_ | with_reducible refine w_rng1 ?_ | with_reducible refine w_rng2 ?_ | with_reducible refine w_m0 ?_ | with_reducible refine w_m1 ?_ | with_reducible refine w_sl ?_ | with_reducible refine w_part ?_ | with_reducible refine w_noP ?_ | with_reducible refine w_b ?_ | with_reducible refine w_notB ?_ | with_reducible refine w_if ?_ | with_reducible refine w_chain ?_ | with_reducible refine w_zip ?_ | with_reducible refine w_enum ?_ | with_reducible refine wg_add ?_ | with_reducible refine wg_sub ?_ | with_reducible refine wg_neg ?_ | with_reducible refine wg_lt ?_ | with_reducible refine wg_le ?_ | with_reducible refine wg_gt ?_ | with_reducible refine wg_ge ?_ | with_reducible refine wg_not ?_ | with_reducible refine wg_lenL ?_ | with_reducible refine wg_lenT ?_ | with_reducible refine wg_lenC ?_ | with_reducible refine wg_int ?_ | with_reducible refine wg_intB ?_ | with_reducible refine wg_abs ?_ | with_reducible refine wg_max2 ?_ | with_reducible refine wg_min2 ?_ | with_reducible refine wg_reprB ?_ | with_reducible refine wg_itL ?_ | with_reducible refine wg_itT ?_ | with_reducible refine wg_itC ?_ | with_reducible refine wg_itS ?_ | with_reducible refine wg_slL ?_ | with_reducible refine wg_slT ?_ | with_reducible refine wg_tupleL ?_ | with_reducible refine wg_tupleT ?_ | with_reducible refine wg_listL ?_ | with_reducible refine wg_listT ?_ | with_reducible refine wg_revL ?_ | with_reducible refine wg_revT ?_ | with_reducible refine wg_zipT ?_ | with_reducible refine wg_allM ?_ | with_reducible refine wg_anyM ?_ | with_reducible refine w_var (by with_unfolding_all rfl) ?_ | with_reducible refine wg_mul (Or.inr (by decide)) ?_ | with_reducible refine wg_mul (Or.inl (by decide)) ?_ | with_reducible refine wg_mod (by decide +kernel) ?_ | with_reducible refine wg_fdiv (by decide) ?_ | with_reducible refine wg_pow (by decide +kernel) ?_ | with_reducible refine wg_tup (by simp; done) ?_ | with_reducible refine wg_lst (by simp; done) ?_ | with_reducible refine w_dieSet (by decide) ?_ | with_reducible refine w_dieAt (by decide) (fun _ => ?_) | refine ⟨_, rfl, ?_⟩ | refine ⟨rfl, ?_⟩))
  refine w_compM addD ?_
  (repeat (first | with_reducible refine ws_seq ?_ | with_reducible refine ws_asg ?_ | with_reducible refine ws_ret ?_ | with_reducible refine ws_if ?_ | with_reducible refine ws_next ?_ | with_reducible refine ws_retN ?_ | with_reducible refine ws_brk ?_ | with_reducible refine ws_cont ?_ | with_reducible refine ws_drop ?_ | with_reducible refine ws_setI ?_ | with_reducible refine ws_for ?_ | with_reducible refine ws_par ?_ | with_reducible refine ws_frz ?_ | with_reducible refine ws_parO ?_ | with_reducible refine ws_setOwn ?_ | with_reducible refine ⟨fun _ => ?_, fun z => absurd rfl z⟩ | refine And.intro rt_nx fun _ => ?_ | refine And.intro bk_nx fun _ => ?_ | refine And.intro ct_nx fun _ => ?_ | with_reducible refine w_c2 ?_ | with_reducible refine w_c1 ?_ | with_reducible refine w_cA ?_ | with_reducible refine w_cons ?_ | with_reducible refine w_nil ?_ | with_reducible refine w_c ?_ | with_reducible refine w_call ?_ | with_reducible refine w_it ?_ | with_reducible refine w_rng1 ?_ | with_reducible refine w_rng2 ?_ | with_reducible refine w_m0 ?_ | with_reducible refine w_m1 ?_ | with_reducible refine w_sl ?_ | with_reducible refine w_part ?_ | with_reducible refine w_noP ?_ | with_reducible refine w_b ?_ | with_reducible refine w_notB ?_ | with_reducible refine w_if ?_ | with_reducible refine w_chain ?_ | with_reducible refine w_zip ?_ | with_reducible refine w_enum ?_ | with_reducible refine wg_add ?_ | with_reducible refine wg_sub ?_ | with_reducible refine wg_neg ?_ | with_reducible refine wg_lt ?_ | with_reducible refine wg_le ?_ | with_reducible refine wg_gt ?_ | with_reducible refine wg_ge ?_ | with_reducible refine wg_not ?_ | with_reducible refine wg_lenL ?_ | with_reducible refine wg_lenT ?_ | with_reducible refine wg_lenC ?_ | with_reducible refine wg_int ?_ | with_reducible refine wg_intB ?_ | with_reducible refine wg_abs ?_ | with_reducible refine wg_max2 ?_ | with_reducible refine wg_min2 ?_ | with_reducible refine wg_reprB ?_ | with_reducible refine wg_itL ?_ | with_reducible refine wg_itT ?_ | with_reducible refine wg_itC ?_ | with_reducible refine wg_itS ?_ | with_reducible refine wg_slL ?_ | with_reducible refine wg_slT ?_ | with_reducible refine wg_tupleL ?_ | with_reducible refine wg_tupleT ?_ | with_reducible refine wg_listL ?_ | with_reducible refine wg_listT ?_ | with_reducible refine wg_revL ?_ | with_reducible refine wg_revT ?_ | with_reducible refine wg_zipT ?_ | with_reducible refine wg_allM ?_ | with_reducible refine wg_anyM ?_ | with_reducible refine w_var (by with_unfolding_all rfl) ?_ | with_reducible refine wg_mul (Or.inr (by decide)) ?_ | with_reducible refine wg_mul (Or.inl (by decide)) ?_ | with_reducible refine wg_mod (by decide +kernel) ?_ | with_reducible refine wg_fdiv (by decide) ?_ | with_reducible refine wg_pow (by decide +kernel) ?_ | with_reducible refine wg_tup (by simp; done) ?_ | with_reducible refine wg_lst (by simp; done) ?_ | with_reducible refine w_dieSet (by decide) ?_ | with_reducible refine w_dieAt (by decide) (fun _ => ?_) | refine ⟨_, rfl, ?_⟩ | refine ⟨rfl, ?_⟩))
  refine ⟨?_, fun d hd => ?_, ?_⟩
  · rw [zipD_ints, List.length_map, List.length_zip, Nat.min_def]
    split <;> omega
  · obtain ⟨a, b, rfl⟩ := mem_zip hd
    refine ⟨_, rfl, ?_⟩
    (repeat (first | with_reducible refine ws_seq ?_ | with_reducible refine ws_asg ?_ | with_reducible refine ws_ret ?_ | with_reducible refine ws_if ?_ | with_reducible refine ws_next ?_ | with_reducible refine ws_retN ?_ | with_reducible refine ws_brk ?_ | with_reducible refine ws_cont ?_ | with_reducible refine ws_drop ?_ | with_reducible refine ws_setI ?_ | with_reducible refine ws_for ?_ | with_reducible refine ws_par ?_ | with_reducible refine ws_frz ?_ | with_reducible refine ws_parO ?_ | with_reducible refine ws_setOwn ?_ | with_reducible refine ⟨fun _ => ?_, fun z => absurd rfl z⟩ | refine And.intro rt_nx fun _ => ?_ | refine And.intro bk_nx fun _ => ?_ | refine And.intro ct_nx fun _ => ?_ | with_reducible refine w_c2 ?_ | with_reducible refine w_c1 ?_ | with_reducible refine w_cA ?_ | with_reducible refine w_cons ?_ | with_reducible refine w_nil ?_ | with_reducible refine w_c ?_ | with_reducible refine w_call ?_ | with_reducible refine w_it ?_ | with_reducible refine w_rng1 ?_ | with_reducible refine w_rng2 ?_ | with_reducible refine w_m0 ?_ | with_reducible refine w_m1 ?_ | with_reducible refine w_sl ?_ | with_reducible refine w_part ?_ | with_reducible refine w_noP ?_ | with_reducible refine w_b ?_ | with_reducible refine w_notB ?_ | with_reducible refine w_if ?_ | with_reducible refine w_chain ?_ | with_reducible refine w_zip ?_ | with_reducible refine w_enum ?_ | with_reducible refine wg_add ?_ | with_reducible refine wg_sub ?_ | with_reducible refine wg_neg ?_ | with_reducible refine wg_lt ?_ | with_reducible refine wg_le ?_ | with_reducible refine wg_gt ?_ | with_reducible refine wg_ge ?_ | with_reducible refine wg_not ?_ | with_reducible refine wg_lenL ?_ | with_reducible refine wg_lenT ?_ | with_reducible refine wg_lenC ?_ | with_reducible refine wg_int ?_ | with_reducible refine wg_intB ?_ | with_reducible refine wg_abs ?_ | with_reducible refine wg_max2 ?_ | with_reducible refine wg_min2 ?_ | with_reducible refine wg_reprB ?_ | with_reducible refine wg_itL ?_ | with_reducible refine wg_itT ?_ | with_reducible refine wg_itC ?_ | with_reducible refine wg_itS ?_ | with_reducible refine wg_slL ?_ | with_reducible refine wg_slT ?_ | with_reducible refine wg_tupleL ?_ | with_reducible refine wg_tupleT ?_ | with_reducible refine wg_listL ?_ | with_reducible refine wg_listT ?_ | with_reducible refine wg_revL ?_ | with_reducible refine wg_revT ?_ | with_reducible refine wg_zipT ?_ | with_reducible refine wg_allM ?_ | with_reducible refine wg_anyM ?_ | with_reducible refine w_var (by with_unfolding_all rfl) ?_ | with_reducible refine wg_mul (Or.inr (by decide)) ?_ | with_reducible refine wg_mul (Or.inl (by decide)) ?_ | with_reducible refine wg_mod (by decide +kernel) ?_ | with_reducible refine wg_fdiv (by decide) ?_ | with_reducible refine wg_pow (by decide +kernel) ?_ | with_reducible refine wg_tup (by simp; done) ?_ | with_reducible refine wg_lst (by simp; done) ?_ | with_reducible refine w_dieSet (by decide) ?_ | with_reducible refine w_dieAt (by decide) (fun _ => ?_) | refine ⟨_, rfl, ?_⟩ | refine ⟨rfl, ?_⟩))
    refine wg_in (inP_two a b) ?_
    refine ⟨_, rfl, fun h => ?_, fun h => ?_⟩
    · (repeat (first | with_reducible refine ws_seq ?_ | with_reducible refine ws_asg ?_ | with_reducible refine ws_ret ?_ | with_reducible refine ws_if ?_ | with_reducible refine ws_next ?_ | with_reducible refine ws_retN ?_ | with_reducible refine ws_brk ?_ | with_reducible refine ws_cont ?_ | with_reducible refine ws_drop ?_ | with_reducible refine ws_setI ?_ | with_reducible refine ws_for ?_ | with_reducible refine ws_par ?_ | with_reducible refine ws_frz ?_ | with_reducible refine ws_parO ?_ | with_reducible refine ws_setOwn ?_ | with_reducible refine ⟨fun _ => ?_, fun z => absurd rfl z⟩ | refine And.intro rt_nx fun _ => ?_ | refine And.intro bk_nx fun _ => ?_ | refine And.intro ct_nx fun _ => ?_ | with_reducible refine w_c2 ?_ | with_reducible refine w_c1 ?_ | with_reducible refine w_cA ?_ | with_reducible refine w_cons ?_ | with_reducible refine w_nil ?_ | with_reducible refine w_c ?_ | with_reducible refine w_call ?_ | with_reducible refine w_it ?_ | with_reducible refine w_rng1 ?_ | with_reducible refine w_rng2 ?_ | with_reducible refine w_m0 ?_ | with_reducible refine w_m1 ?_ | with_reducible refine w_sl ?_ | with_reducible refine w_part ?_ | with_reducible refine w_noP ?_ | with_reducible refine w_b ?_ | with_reducible refine w_notB ?_ | with_reducible refine w_if ?_ | with_reducible refine w_chain ?_ | with_reducible refine w_zip ?_ | with_reducible refine w_enum ?_ | with_reducible refine wg_add ?_ | with_reducible refine wg_sub ?_ | with_reducible refine wg_neg ?_ | with_reducible refine wg_lt ?_ | with_reducible refine wg_le ?_ | with_reducible refine wg_gt ?_ | with_reducible refine wg_ge ?_ | with_reducible refine wg_not ?_ | with_reducible refine wg_lenL ?_ | with_reducible refine wg_lenT ?_ | with_reducible refine wg_lenC ?_ | with_reducible refine wg_int ?_ | with_reducible refine wg_intB ?_ | with_reducible refine wg_abs ?_ | with_reducible refine wg_max2 ?_ | with_reducible refine wg_min2 ?_ | with_reducible refine wg_reprB ?_ | with_reducible refine wg_itL ?_ | with_reducible refine wg_itT ?_ | with_reducible refine wg_itC ?_ | with_reducible refine wg_itS ?_ | with_reducible refine wg_slL ?_ | with_reducible refine wg_slT ?_ | with_reducible refine wg_tupleL ?_ | with_reducible refine wg_tupleT ?_ | with_reducible refine wg_listL ?_ | with_reducible refine wg_listT ?_ | with_reducible refine wg_revL ?_ | with_reducible refine wg_revT ?_ | with_reducible refine wg_zipT ?_ | with_reducible refine wg_allM ?_ | with_reducible refine wg_anyM ?_ | with_reducible refine w_var (by with_unfolding_all rfl) ?_ | with_reducible refine wg_mul (Or.inr (by decide)) ?_ | with_reducible refine wg_mul (Or.inl (by decide)) ?_ | with_reducible refine wg_mod (by decide +kernel) ?_ | with_reducible refine wg_fdiv (by decide) ?_ | with_reducible refine wg_pow (by decide +kernel) ?_ | with_reducible refine wg_tup (by simp; done) ?_ | with_reducible refine wg_lst (by simp; done) ?_ | with_reducible refine w_dieSet (by decide) ?_ | with_reducible refine w_dieAt (by decide) (fun _ => ?_) | refine ⟨_, rfl, ?_⟩ | refine ⟨rfl, ?_⟩))
      show D.int (-1) = D.int (addW a b)
      unfold addW
      rw [if_pos (of_decide_eq_true h)]
    · (repeat (first | with_reducible refine ws_seq ?_ | with_reducible refine ws_asg ?_ | with_reducible refine ws_ret ?_ | with_reducible refine ws_if ?_ | with_reducible refine ws_next ?_ | with_reducible refine ws_retN ?_ | with_reducible refine ws_brk ?_ | with_reducible refine ws_cont ?_ | with_reducible refine ws_drop ?_ | with_reducible refine ws_setI ?_ | with_reducible refine ws_for ?_ | with_reducible refine ws_par ?_ | with_reducible refine ws_frz ?_ | with_reducible refine ws_parO ?_ | with_reducible refine ws_setOwn ?_ | with_reducible refine ⟨fun _ => ?_, fun z => absurd rfl z⟩ | refine And.intro rt_nx fun _ => ?_ | refine And.intro bk_nx fun _ => ?_ | refine And.intro ct_nx fun _ => ?_ | with_reducible refine w_c2 ?_ | with_reducible refine w_c1 ?_ | with_reducible refine w_cA ?_ | with_reducible refine w_cons ?_ | with_reducible refine w_nil ?_ | with_reducible refine w_c ?_ | with_reducible refine w_call ?_ | with_reducible refine w_it ?_ | with_reducible refine w_rng1 ?_ | with_reducible refine w_rng2 ?_ | with_reducible refine w_m0 ?_ | with_reducible refine w_m1 ?_ | with_reducible refine w_sl ?_ | with_reducible refine w_part ?_ | with_reducible refine w_noP ?_ | with_reducible refine w_b ?_ | with_reducible refine w_notB ?_ | with_reducible refine w_if ?_ | with_reducible refine w_chain ?_ | with_reducible refine w_zip ?_ | with_reducible refine w_enum ?_ | with_reducible refine wg_add ?_ | with_reducible refine wg_sub ?_ | with_reducible refine wg_neg ?_ | with_reducible refine wg_lt ?_ | with_reducible refine wg_le ?_ | with_reducible refine wg_gt ?_ | with_reducible refine wg_ge ?_ | with_reducible refine wg_not ?_ | with_reducible refine wg_lenL ?_ | with_reducible refine wg_lenT ?_ | with_reducible refine wg_lenC ?_ | with_reducible refine wg_int ?_ | with_reducible refine wg_intB ?_ | with_reducible refine wg_abs ?_ | with_reducible refine wg_max2 ?_ | with_reducible refine wg_min2 ?_ | with_reducible refine wg_reprB ?_ | with_reducible refine wg_itL ?_ | with_reducible refine wg_itT ?_ | with_reducible refine wg_itC ?_ | with_reducible refine wg_itS ?_ | with_reducible refine wg_slL ?_ | with_reducible refine wg_slT ?_ | with_reducible refine wg_tupleL ?_ | with_reducible refine wg_tupleT ?_ | with_reducible refine wg_listL ?_ | with_reducible refine wg_listT ?_ | with_reducible refine wg_revL ?_ | with_reducible refine wg_revT ?_ | with_reducible refine wg_zipT ?_ | with_reducible refine wg_allM ?_ | with_reducible refine wg_anyM ?_ | with_reducible refine w_var (by with_unfolding_all rfl) ?_ | with_reducible refine wg_mul (Or.inr (by decide)) ?_ | with_reducible refine wg_mul (Or.inl (by decide)) ?_ | with_reducible refine wg_mod (by decide +kernel) ?_ | with_reducible refine wg_fdiv (by decide) ?_ | with_reducible refine wg_pow (by decide +kernel) ?_ | with_reducible refine wg_tup (by simp; done) ?_ | with_reducible refine wg_lst (by simp; done) ?_ | with_reducible refine w_dieSet (by decide) ?_ | with_reducible refine w_dieAt (by decide) (fun _ => ?_) | refine ⟨_, rfl, ?_⟩ | refine ⟨rfl, ?_⟩))
      show D.int (a + b) = D.int (addW a b)
      unfold addW
      rw [if_neg (of_decide_eq_false h)]
  · (repeat (first | with_reducible refine ws_seq ?_ | with_reducible refine ws_asg ?_ | with_reducible refine ws_ret ?_ | with_reducible refine ws_if ?_ | with_reducible refine ws_next ?_ | with_reducible refine ws_retN ?_ | with_reducible refine ws_brk ?_ | with_reducible refine ws_cont ?_ | with_reducible refine ws_drop ?_ | with_reducible refine ws_setI ?_ | with_reducible refine ws_for ?_ | with_reducible refine ws_par ?_ | with_reducible refine ws_frz ?_ | with_reducible refine ws_parO ?_ | with_reducible refine ws_setOwn ?_ | with_reducible refine ⟨fun _ => ?_, fun z => absurd rfl z⟩ | refine And.intro rt_nx fun _ => ?_ | refine And.intro bk_nx fun _ => ?_ | refine And.intro ct_nx fun _ => ?_ | with_reducible refine w_c2 ?_ | with_reducible refine w_c1 ?_ | with_reducible refine w_cA ?_ | with_reducible refine w_cons ?_ | with_reducible refine w_nil ?_ | with_reducible refine w_c ?_ | with_reducible refine w_call ?_ | with_reducible refine w_it ?_ | with_reducible refine w_rng1 ?_ | with_reducible refine w_rng2 ?_ | with_reducible refine w_m0 ?_ | with_reducible refine w_m1 ?_ | with_reducible refine w_sl ?_ | with_reducible refine w_part ?_ | with_reducible refine w_noP ?_ | with_reducible refine w_b ?_ | with_reducible refine w_notB ?_ | with_reducible refine w_if ?_ | with_reducible refine w_chain ?_ | with_reducible refine w_zip ?_ | with_reducible refine w_enum ?_ | with_reducible refine wg_add ?_ | with_reducible refine wg_sub ?_ | with_reducible refine wg_neg ?_ | with_reducible refine wg_lt ?_ | with_reducible refine wg_le ?_ | with_reducible refine wg_gt ?_ | with_reducible refine wg_ge ?_ | with_reducible refine wg_not ?_ | with_reducible refine wg_lenL ?_ | with_reducible refine wg_lenT ?_ | with_reducible refine wg_lenC ?_ | with_reducible refine wg_int ?_ | with_reducible refine wg_intB ?_ | with_reducible refine wg_abs ?_ | with_reducible refine wg_max2 ?_ | with_reducible refine wg_min2 ?_ | with_reducible refine wg_reprB ?_ | with_reducible refine wg_itL ?_ | with_reducible refine wg_itT ?_ | with_reducible refine wg_itC ?_ | with_reducible refine wg_itS ?_ | with_reducible refine wg_slL ?_ | with_reducible refine wg_slT ?_ | with_reducible refine wg_tupleL ?_ | with_reducible refine wg_tupleT ?_ | with_reducible refine wg_listL ?_ | with_reducible refine wg_listT ?_ | with_reducible refine wg_revL ?_ | with_reducible refine wg_revT ?_ | with_reducible refine wg_zipT ?_ | with_reducible refine wg_allM ?_ | with_reducible refine wg_anyM ?_ | with_reducible refine w_var (by with_unfolding_all rfl) ?_ | with_reducible refine wg_mul (Or.inr (by decide)) ?_ | with_reducible refine wg_mul (Or.inl (by decide)) ?_ | with_reducible refine wg_mod (by decide +kernel) ?_ | with_reducible refine wg_fdiv (by decide) ?_ | with_reducible refine wg_pow (by decide +kernel) ?_ | with_reducible refine wg_tup (by simp; done) ?_ | with_reducible refine wg_lst (by simp; done) ?_ | with_reducible refine w_dieSet (by decide) ?_ | with_reducible refine w_dieAt (by decide) (fun _ => ?_) | refine ⟨_, rfl, ?_⟩ | refine ⟨rfl, ?_⟩))
    show D.tup _ = D.tup _
    rw [zipD_ints, List.map_map]
    unfold sumW
    rw [List.map_map]
    rfl
end
end K03
namespace K03
open PySem PySem.Spec PyProof.Rows L2 DN KB
theorem bag_ok {xs : List Int} (h : Wide xs) : isBagOf (-1) (bagD xs) = true := by
  show (decide (0 < (xs.map D.int).length) && decide ((xs.map D.int).length ≤ 5) && (xs.map D.int).all (isCount (-1))) = true
  rw [List.length_map, decide_eq_true h.1, decide_eq_true h.2.1, Bool.true_and, Bool.true_and, List.all_map, List.all_eq_true]
  intro x hx
  exact decide_eq_true (h.2.2 x hx)
theorem ty2_bag {xs : List Int} (h : xs.length ≤ 100) : Ty2 (bagD xs) := ⟨⟨_, rfl⟩, fun ys e => by
  cases e
  refine ⟨by rw [List.length_map]; exact h, fun x hx => ?_⟩
  obtain ⟨i, _, rfl⟩ := List.mem_map.mp hx
  exact ⟨_, rfl⟩⟩
section
variable {I : Store → Prop} {X : XP}
theorem w_two {xs ys : List Int} (a : Wide xs) (b : Wide ys) (hl : xs.length = ys.length) : Wp I (F_require_two [bagD xs, bagD ys]) (fun r => r = .non) X := by
  refine w_def rfl ?_
  unfold b_require_two
  (repeat (first | with_reducible refine ws_seq ?_ | with_reducible refine ws_asg ?_ | with_reducible refine ws_ret ?_ | with_reducible refine ws_if ?_ | with_reducible refine ws_next ?_ | with_reducible refine ws_retN ?_ | with_reducible refine ws_brk ?_ | with_reducible refine ws_cont ?_ | with_reducible refine ws_drop ?_ | with_reducible refine ws_setI ?_ | with_reducible refine ws_for ?_ | with_reducible refine ws_par ?_ | with_reducible refine ws_frz ?_ | with_reducible refine ws_parO ?_ | with_reducible refine ws_setOwn ?_ | with_reducible refine ⟨fun _ => ?_, fun z => absurd rfl z⟩ | refine And.intro rt_nx fun _ => ?_ | refine And.intro bk_nx fun _ => ?_ | refine And.intro ct_nx fun _ => ?_ | with_reducible refine w_c2 ?_ | with_reducible refine w_c1 ?_ | with_reducible refine w_cA ?_ | with_reducible refine w_cons ?_ | with_reducible refine w_nil ?_ | with_reducible refine w_c ?_ | with_reducible refine w_call ?_ | with_reducible refine w_it ?_ | with_reducible refine w_rng1 ?_ | with_reducible refine w_rng2 ?_ | with_reducible refine w_m0 ?_ | with_reducible refine w_m1 ?_ | with_reducible refine w_sl ?_ | with_reducible refine w_part ?_ | with_reducible refine w_noP ?_ | with_reducible refine w_b ?_ | with_reducible refine w_notB ?_ | with_reducible refine w_if ?_ | with_reducible refine w_chain ?_ | with_reducible refine w_zip ?_ | with_reducible refine w_enum ?_ | with_reducible refine wg_add ?_ | with_reducible refine wg_sub ?_ | with_reducible refine wg_neg ?_ | with_reducible refine wg_lt ?_ | with_reducible refine wg_le ?_ | with_reducible refine wg_gt ?_ | with_reducible refine wg_ge ?_ | with_reducible refine wg_not ?_ | with_reducible refine wg_lenL ?_ | with_reducible refine wg_lenT ?_ | with_reducible refine wg_lenC ?_ | with_reducible refine wg_int ?_ | with_reducible refine wg_intB ?_ | with_reducible refine wg_abs ?_ | with_reducible refine wg_max2 ?_ | with_reducible refine wg_min2 ?_ | with_reducible refine wg_reprB ?_ | with_reducible refine wg_itL ?_ | with_reducible refine wg_itT ?_ | with_reducible refine wg_itC ?_ | with_reducible refine wg_itS ?_ | with_reducible refine wg_slL ?_ | with_reducible refine wg_slT ?_ | with_reducible refine wg_tupleL ?_ | with_reducible refine wg_tupleT ?_ | with_reducible refine wg_listL ?_ | with_reducible refine wg_listT ?_ | with_reducible refine wg_revL ?_ | with_reducible refine wg_revT ?_ | with_reducible refine wg_zipT ?_ | with_reducible refine wg_allM ?_ | with_reducible refine wg_anyM ?_ | with_reducible refine w_var (by with_unfolding_all rfl) ?_ | with_reducible refine wg_mul (Or.inr (by decide)) ?_ | with_reducible refine wg_mul (Or.inl (by decide)) ?_ | with_reducible refine wg_mod (by decide +kernel) ?_ | with_reducible refine wg_fdiv (by decide) ?_ | with_reducible refine wg_pow (by decide +kernel) ?_ | with_reducible refine wg_tup (by simp; done) ?_ | with_reducible refine wg_lst (by simp; done) ?_ | with_reducible refine w_dieSet (by decide) ?_ | with_reducible refine w_dieAt (by decide) (fun _ => ?_) | refine ⟨_, rfl, ?_⟩ | refine ⟨rfl, ?_⟩))
  refine w_orB ?_
  (repeat (first | with_reducible refine ws_seq ?_ | with_reducible refine ws_asg ?_ | with_reducible refine ws_ret ?_ | with_reducible refine ws_if ?_ | with_reducible refine ws_next ?_ | with_reducible refine ws_retN ?_ | with_reducible refine ws_brk ?_ | with_reducible refine ws_cont ?_ | with_reducible refine ws_drop ?_ | with_reducible refine ws_setI ?_ | with_reducible refine ws_for ?_ | with_reducible refine ws_par ?_ | with_reducible refine ws_frz ?_ | with_reducible refine ws_parO ?_ | with_reducible refine ws_setOwn ?_ | with_reducible refine ⟨fun _ => ?_, fun z => absurd rfl z⟩ | refine And.intro rt_nx fun _ => ?_ | refine And.intro bk_nx fun _ => ?_ | refine And.intro ct_nx fun _ => ?_ | with_reducible refine w_c2 ?_ | with_reducible refine w_c1 ?_ | with_reducible refine w_cA ?_ | with_reducible refine w_cons ?_ | with_reducible refine w_nil ?_ | with_reducible refine w_c ?_ | with_reducible refine w_call ?_ | with_reducible refine w_it ?_ | with_reducible refine w_rng1 ?_ | with_reducible refine w_rng2 ?_ | with_reducible refine w_m0 ?_ | with_reducible refine w_m1 ?_ | with_reducible refine w_sl ?_ | with_reducible refine w_part ?_ | with_reducible refine w_noP ?_ | with_reducible refine w_b ?_ | with_reducible refine w_notB ?_ | with_reducible refine w_if ?_ | with_reducible refine w_chain ?_ | with_reducible refine w_zip ?_ | with_reducible refine w_enum ?_ | with_reducible refine wg_add ?_ | with_reducible refine wg_sub ?_ | with_reducible refine wg_neg ?_ | with_reducible refine wg_lt ?_ | with_reducible refine wg_le ?_ | with_reducible refine wg_gt ?_ | with_reducible refine wg_ge ?_ | with_reducible refine wg_not ?_ | with_reducible refine wg_lenL ?_ | with_reducible refine wg_lenT ?_ | with_reducible refine wg_lenC ?_ | with_reducible refine wg_int ?_ | with_reducible refine wg_intB ?_ | with_reducible refine wg_abs ?_ | with_reducible refine wg_max2 ?_ | with_reducible refine wg_min2 ?_ | with_reducible refine wg_reprB ?_ | with_reducible refine wg_itL ?_ | with_reducible refine wg_itT ?_ | with_reducible refine wg_itC ?_ | with_reducible refine wg_itS ?_ | with_reducible refine wg_slL ?_ | with_reducible refine wg_slT ?_ | with_reducible refine wg_tupleL ?_ | with_reducible refine wg_tupleT ?_ | with_reducible refine wg_listL ?_ | with_reducible refine wg_listT ?_ | with_reducible refine wg_revL ?_ | with_reducible refine wg_revT ?_ | with_reducible refine wg_zipT ?_ | with_reducible refine wg_allM ?_ | with_reducible refine wg_anyM ?_ | with_reducible refine w_var (by with_unfolding_all rfl) ?_ | with_reducible refine wg_mul (Or.inr (by decide)) ?_ | with_reducible refine wg_mul (Or.inl (by decide)) ?_ | with_reducible refine wg_mod (by decide +kernel) ?_ | with_reducible refine wg_fdiv (by decide) ?_ | with_reducible refine wg_pow (by decide +kernel) ?_ | with_reducible refine wg_tup (by simp; done) ?_ | with_reducible refine wg_lst (by simp; done) ?_ | with_reducible refine w_dieSet (by decide) ?_ | with_reducible refine w_dieAt (by decide) (fun _ => ?_) | refine ⟨_, rfl, ?_⟩ | refine ⟨rfl, ?_⟩))
  refine (w_is_wide (ty2_bag (by have := a.2.1; omega))).imp (fun r hr => ?_) fun _ _ x => x
  subst hr
  rw [bag_ok a]
  refine ⟨_, rfl, fun _ => ?_, fun h => (nomatch h)⟩
  refine w_orB ?_
  (repeat (first | with_reducible refine ws_seq ?_ | with_reducible refine ws_asg ?_ | with_reducible refine ws_ret ?_ | with_reducible refine ws_if ?_ | with_reducible refine ws_next ?_ | with_reducible refine ws_retN ?_ | with_reducible refine ws_brk ?_ | with_reducible refine ws_cont ?_ | with_reducible refine ws_drop ?_ | with_reducible refine ws_setI ?_ | with_reducible refine ws_for ?_ | with_reducible refine ws_par ?_ | with_reducible refine ws_frz ?_ | with_reducible refine ws_parO ?_ | with_reducible refine ws_setOwn ?_ | with_reducible refine ⟨fun _ => ?_, fun z => absurd rfl z⟩ | refine And.intro rt_nx fun _ => ?_ | refine And.intro bk_nx fun _ => ?_ | refine And.intro ct_nx fun _ => ?_ | with_reducible refine w_c2 ?_ | with_reducible refine w_c1 ?_ | with_reducible refine w_cA ?_ | with_reducible refine w_cons ?_ | with_reducible refine w_nil ?_ | with_reducible refine w_c ?_ | with_reducible refine w_call ?_ | with_reducible refine w_it ?_ | with_reducible refine w_rng1 ?_ | with_reducible refine w_rng2 ?_ | with_reducible refine w_m0 ?_ | with_reducible refine w_m1 ?_ | with_reducible refine w_sl ?_ | with_reducible refine w_part ?_ | with_reducible refine w_noP ?_ | with_reducible refine w_b ?_ | with_reducible refine w_notB ?_ | with_reducible refine w_if ?_ | with_reducible refine w_chain ?_ | with_reducible refine w_zip ?_ | with_reducible refine w_enum ?_ | with_reducible refine wg_add ?_ | with_reducible refine wg_sub ?_ | with_reducible refine wg_neg ?_ | with_reducible refine wg_lt ?_ | with_reducible refine wg_le ?_ | with_reducible refine wg_gt ?_ | with_reducible refine wg_ge ?_ | with_reducible refine wg_not ?_ | with_reducible refine wg_lenL ?_ | with_reducible refine wg_lenT ?_ | with_reducible refine wg_lenC ?_ | with_reducible refine wg_int ?_ | with_reducible refine wg_intB ?_ | with_reducible refine wg_abs ?_ | with_reducible refine wg_max2 ?_ | with_reducible refine wg_min2 ?_ | with_reducible refine wg_reprB ?_ | with_reducible refine wg_itL ?_ | with_reducible refine wg_itT ?_ | with_reducible refine wg_itC ?_ | with_reducible refine wg_itS ?_ | with_reducible refine wg_slL ?_ | with_reducible refine wg_slT ?_ | with_reducible refine wg_tupleL ?_ | with_reducible refine wg_tupleT ?_ | with_reducible refine wg_listL ?_ | with_reducible refine wg_listT ?_ | with_reducible refine wg_revL ?_ | with_reducible refine wg_revT ?_ | with_reducible refine wg_zipT ?_ | with_reducible refine wg_allM ?_ | with_reducible refine wg_anyM ?_ | with_reducible refine w_var (by with_unfolding_all rfl) ?_ | with_reducible refine wg_mul (Or.inr (by decide)) ?_ | with_reducible refine wg_mul (Or.inl (by decide)) ?_ | with_reducible refine wg_mod (by decide +kernel) ?_ | with_reducible refine wg_fdiv (by decide) ?_ | with_reducible refine wg_pow (by decide +kernel) ?_ | with_reducible refine wg_tup (by simp; done) ?_ | with_reducible refine wg_lst (by simp; done) ?_ | with_reducible refine w_dieSet (by decide) ?_ | with_reducible refine w_dieAt (by decide) (fun _ => ?_) | refine ⟨_, rfl, ?_⟩ | refine ⟨rfl, ?_⟩))
  refine (w_is_wide (ty2_bag (by have := b.2.1; omega))).imp (fun r hr => ?_) fun _ _ x => x
  subst hr
  rw [bag_ok b]
  refine ⟨_, rfl, fun _ => ?_, fun h => (nomatch h)⟩
  unfold bagD
  (repeat (first | with_reducible refine ws_seq ?_ | with_reducible refine ws_asg ?_ | with_reducible refine ws_ret ?_ | with_reducible refine ws_if ?_ | with_reducible refine ws_next ?_ | with_reducible refine ws_retN ?_ | with_reducible refine ws_brk ?_ | with_reducible refine ws_cont ?_ | with_reducible refine ws_drop ?_ | with_reducible refine ws_setI ?_ | with_reducible refine ws_for ?_ | with_reducible refine ws_par ?_ | with_reducible refine ws_frz ?_ | with_reducible refine ws_parO ?_ | with_reducible refine ws_setOwn ?_ | with_reducible refine ⟨fun _ => ?_, fun z => absurd rfl z⟩ | refine And.intro rt_nx fun _ => ?_ | refine And.intro bk_nx fun _ => ?_ | refine And.intro ct_nx fun _ => ?_ | with_reducible refine w_c2 ?_ | with_reducible refine w_c1 ?_ | with_reducible refine w_cA ?_ | with_reducible refine w_cons ?_ | with_reducible refine w_nil ?_ | with_reducible refine w_c ?_ | with_reducible refine w_call ?_ | with_reducible refine w_it ?_ | with_reducible refine w_rng1 ?_ | with_reducible refine w_rng2 ?_ | with_reducible refine w_m0 ?_ | with_reducible refine w_m1 ?_ | with_reducible refine w_sl ?_ | with_reducible refine w_part ?_ | with_reducible refine w_noP ?_ | with_reducible refine w_b ?_ | with_reducible refine w_notB ?_ | with_reducible refine w_if ?_ | with_reducible refine w_chain ?_ | with_reducible refine w_zip ?_ | with_reducible refine w_enum ?_ | with_reducible refine wg_add ?_ | with_reducible refine wg_sub ?_ | with_reducible refine wg_neg ?_ | with_reducible refine wg_lt ?_ | with_reducible refine wg_le ?_ | with_reducible refine wg_gt ?_ | with_reducible refine wg_ge ?_ | with_reducible refine wg_not ?_ | with_reducible refine wg_lenL ?_ | with_reducible refine wg_lenT ?_ | with_reducible refine wg_lenC ?_ | with_reducible refine wg_int ?_ | with_reducible refine wg_intB ?_ | with_reducible refine wg_abs ?_ | with_reducible refine wg_max2 ?_ | with_reducible refine wg_min2 ?_ | with_reducible refine wg_reprB ?_ | with_reducible refine wg_itL ?_ | with_reducible refine wg_itT ?_ | with_reducible refine wg_itC ?_ | with_reducible refine wg_itS ?_ | with_reducible refine wg_slL ?_ | with_reducible refine wg_slT ?_ | with_reducible refine wg_tupleL ?_ | with_reducible refine wg_tupleT ?_ | with_reducible refine wg_listL ?_ | with_reducible refine wg_listT ?_ | with_reducible refine wg_revL ?_ | with_reducible refine wg_revT ?_ | with_reducible refine wg_zipT ?_ | with_reducible refine wg_allM ?_ | with_reducible refine wg_anyM ?_ | with_reducible refine w_var (by with_unfolding_all rfl) ?_ | with_reducible refine wg_mul (Or.inr (by decide)) ?_ | with_reducible refine wg_mul (Or.inl (by decide)) ?_ | with_reducible refine wg_mod (by decide +kernel) ?_ | with_reducible refine wg_fdiv (by decide) ?_ | with_reducible refine wg_pow (by decide +kernel) ?_ | with_reducible refine wg_tup (by simp; done) ?_ | with_reducible refine wg_lst (by simp; done) ?_ | with_reducible refine w_dieSet (by decide) ?_ | with_reducible refine w_dieAt (by decide) (fun _ => ?_) | refine ⟨_, rfl, ?_⟩ | refine ⟨rfl, ?_⟩))
  refine wg_ne (eqD_int _ _) ?_
  rw [List.length_map, List.length_map, decide_eq_true (by rw [hl])]
  (repeat (first | with_reducible refine ws_seq ?_ | with_reducible refine ws_asg ?_ | with_reducible refine ws_ret ?_ | with_reducible refine ws_if ?_ | with_reducible refine ws_next ?_ | with_reducible refine ws_retN ?_ | with_reducible refine ws_brk ?_ | with_reducible refine ws_cont ?_ | with_reducible refine ws_drop ?_ | with_reducible refine ws_setI ?_ | with_reducible refine ws_for ?_ | with_reducible refine ws_par ?_ | with_reducible refine ws_frz ?_ | with_reducible refine ws_parO ?_ | with_reducible refine ws_setOwn ?_ | with_reducible refine ⟨fun _ => ?_, fun z => absurd rfl z⟩ | refine And.intro rt_nx fun _ => ?_ | refine And.intro bk_nx fun _ => ?_ | refine And.intro ct_nx fun _ => ?_ | with_reducible refine w_c2 ?_ | with_reducible refine w_c1 ?_ | with_reducible refine w_cA ?_ | with_reducible refine w_cons ?_ | with_reducible refine w_nil ?_ | with_reducible refine w_c ?_ | with_reducible refine w_call ?_ | with_reducible refine w_it ?_ | with_reducible refine w_rng1 ?_ | with_reducible refine w_rng2 ?_ | with_reducible refine w_m0 ?_ | with_reducible refine w_m1 ?_ | with_reducible refine w_sl ?_ | with_reducible refine w_part ?_ | with_reducible refine w_noP ?_ | with_reducible refine w_b ?_ | with_reducible refine w_notB ?_ | with_reducible refine w_if ?_ | with_reducible refine w_chain ?_ | with_reducible refine w_zip ?_ | with_reducible refine w_enum ?_ | with_reducible refine wg_add ?_ | with_reducible refine wg_sub ?_ | with_reducible refine wg_neg ?_ | with_reducible refine wg_lt ?_ | with_reducible refine wg_le ?_ | with_reducible refine wg_gt ?_ | with_reducible refine wg_ge ?_ | with_reducible refine wg_not ?_ | with_reducible refine wg_lenL ?_ | with_reducible refine wg_lenT ?_ | with_reducible refine wg_lenC ?_ | with_reducible refine wg_int ?_ | with_reducible refine wg_intB ?_ | with_reducible refine wg_abs ?_ | with_reducible refine wg_max2 ?_ | with_reducible refine wg_min2 ?_ | with_reducible refine wg_reprB ?_ | with_reducible refine wg_itL ?_ | with_reducible refine wg_itT ?_ | with_reducible refine wg_itC ?_ | with_reducible refine wg_itS ?_ | with_reducible refine wg_slL ?_ | with_reducible refine wg_slT ?_ | with_reducible refine wg_tupleL ?_ | with_reducible refine wg_tupleT ?_ | with_reducible refine wg_listL ?_ | with_reducible refine wg_listT ?_ | with_reducible refine wg_revL ?_ | with_reducible refine wg_revT ?_ | with_reducible refine wg_zipT ?_ | with_reducible refine wg_allM ?_ | with_reducible refine wg_anyM ?_ | with_reducible refine w_var (by with_unfolding_all rfl) ?_ | with_reducible refine wg_mul (Or.inr (by decide)) ?_ | with_reducible refine wg_mul (Or.inl (by decide)) ?_ | with_reducible refine wg_mod (by decide +kernel) ?_ | with_reducible refine wg_fdiv (by decide) ?_ | with_reducible refine wg_pow (by decide +kernel) ?_ | with_reducible refine wg_tup (by simp; done) ?_ | with_reducible refine wg_lst (by simp; done) ?_ | with_reducible refine w_dieSet (by decide) ?_ | with_reducible refine w_dieAt (by decide) (fun _ => ?_) | refine ⟨_, rfl, ?_⟩ | refine ⟨rfl, ?_⟩))
  refine ⟨fun h => (nomatch h), fun _ => ?_⟩
  (repeat (first | with_reducible refine ws_seq ?_ | with_reducible refine ws_asg ?_ | with_reducible refine ws_ret ?_ | with_reducible refine ws_if ?_ | with_reducible refine ws_next ?_ | with_reducible refine ws_retN ?_ | with_reducible refine ws_brk ?_ | with_reducible refine ws_cont ?_ | with_reducible refine ws_drop ?_ | with_reducible refine ws_setI ?_ | with_reducible refine ws_for ?_ | with_reducible refine ws_par ?_ | with_reducible refine ws_frz ?_ | with_reducible refine ws_parO ?_ | with_reducible refine ws_setOwn ?_ | with_reducible refine ⟨fun _ => ?_, fun z => absurd rfl z⟩ | refine And.intro rt_nx fun _ => ?_ | refine And.intro bk_nx fun _ => ?_ | refine And.intro ct_nx fun _ => ?_ | with_reducible refine w_c2 ?_ | with_reducible refine w_c1 ?_ | with_reducible refine w_cA ?_ | with_reducible refine w_cons ?_ | with_reducible refine w_nil ?_ | with_reducible refine w_c ?_ | with_reducible refine w_call ?_ | with_reducible refine w_it ?_ | with_reducible refine w_rng1 ?_ | with_reducible refine w_rng2 ?_ | with_reducible refine w_m0 ?_ | with_reducible refine w_m1 ?_ | with_reducible refine w_sl ?_ | with_reducible refine w_part ?_ | with_reducible refine w_noP ?_ | with_reducible refine w_b ?_ | with_reducible refine w_notB ?_ | with_reducible refine w_if ?_ | with_reducible refine w_chain ?_ | with_reducible refine w_zip ?_ | with_reducible refine w_enum ?_ | with_reducible refine wg_add ?_ | with_reducible refine wg_sub ?_ | with_reducible refine wg_neg ?_ | with_reducible refine wg_lt ?_ | with_reducible refine wg_le ?_ | with_reducible refine wg_gt ?_ | with_reducible refine wg_ge ?_ | with_reducible refine wg_not ?_ | with_reducible refine wg_lenL ?_ | with_reducible refine wg_lenT ?_ | with_reducible refine wg_lenC ?_ | with_reducible refine wg_int ?_ | with_reducible refine wg_intB ?_ | with_reducible refine wg_abs ?_ | with_reducible refine wg_max2 ?_ | with_reducible refine wg_min2 ?_ | with_reducible refine wg_reprB ?_ | with_reducible refine wg_itL ?_ | with_reducible refine wg_itT ?_ | with_reducible refine wg_itC ?_ | with_reducible refine wg_itS ?_ | with_reducible refine wg_slL ?_ | with_reducible refine wg_slT ?_ | with_reducible refine wg_tupleL ?_ | with_reducible refine wg_tupleT ?_ | with_reducible refine wg_listL ?_ | with_reducible refine wg_listT ?_ | with_reducible refine wg_revL ?_ | with_reducible refine wg_revT ?_ | with_reducible refine wg_zipT ?_ | with_reducible refine wg_allM ?_ | with_reducible refine wg_anyM ?_ | with_reducible refine w_var (by with_unfolding_all rfl) ?_ | with_reducible refine wg_mul (Or.inr (by decide)) ?_ | with_reducible refine wg_mul (Or.inl (by decide)) ?_ | with_reducible refine wg_mod (by decide +kernel) ?_ | with_reducible refine wg_fdiv (by decide) ?_ | with_reducible refine wg_pow (by decide +kernel) ?_ | with_reducible refine wg_tup (by simp; done) ?_ | with_reducible refine wg_lst (by simp; done) ?_ | with_reducible refine w_dieSet (by decide) ?_ | with_reducible refine w_dieAt (by decide) (fun _ => ?_) | refine ⟨_, rfl, ?_⟩ | refine ⟨rfl, ?_⟩))
  rfl
theorem w_within {xs ys : List Int} (a : Wide xs) (b : Wide ys) (hl : xs.length = ys.length) : Wp I (F_within [bagD xs, bagD ys]) (fun r => r = .bl (within xs ys)) X := by
  refine w_def rfl ?_
  unfold b_within
  (repeat (first | with_reducible refine ws_seq ?_ | with_reducible refine ws_asg ?_ | with_reducible refine ws_ret ?_ | with_reducible refine ws_if ?_ | with_reducible refine ws_next ?_ | with_reducible refine ws_retN ?_ | with_reducible refine ws_brk ?_ | with_reducible refine ws_cont ?_ | with_reducible refine ws_drop ?_ | with_reducible refine ws_setI ?_ | with_reducible refine ws_for ?_ | with_reducible refine ws_par ?_ | with_reducible refine ws_frz ?_ | with_reducible refine ws_parO ?_ | with_reducible refine ws_setOwn ?_ | with_reducible refine ⟨fun _ => ?_, fun z => absurd rfl z⟩ | refine And.intro rt_nx fun _ => ?_ | refine And.intro bk_nx fun _ => ?_ | refine And.intro ct_nx fun _ => ?_ | with_reducible refine w_c2 ?_ | with_reducible refine w_c1 ?_ | with_reducible refine w_cA ?_ | with_reducible refine w_cons ?_ | with_reducible refine w_nil ?_ | with_reducible refine w_c ?_ | with_reducible refine w_call ?_ | with_reducible refine w_it ?_ | with_reducible refine w_rng1 ?_ | with_reducible refine w_rng2 ?_ | with_reducible refine w_m0 ?_ | with_reducible refine w_m1 ?_ | with_reducible refine w_sl ?_ | with_reducible refine w_part ?_ | with_reducible refine w_noP ?_ | with_reducible refine w_b ?_ | with_reducible refine w_notB ?_ | with_reducible refine w_if ?_ | with_reducible refine w_chain ?_ | with_reducible refine w_zip ?_ | with_reducible refine w_enum ?_ | with_reducible refine wg_add ?_ | with_reducible refine wg_sub ?_ | with_reducible refine wg_neg ?_ | with_reducible refine wg_lt ?_ | with_reducible refine wg_le ?_ | with_reducible refine wg_gt ?_ | with_reducible refine wg_ge ?_ | with_reducible refine wg_not ?_ | with_reducible refine wg_lenL ?_ | with_reducible refine wg_lenT ?_ | with_reducible refine wg_lenC ?_ | with_reducible refine wg_int ?_ | with_reducible refine wg_intB ?_ | with_reducible refine wg_abs ?_ | with_reducible refine wg_max2 ?_ | with_reducible refine wg_min2 ?_ | with_reducible refine wg_reprB ?_ | with_reducible refine wg_itL ?_ | with_reducible refine wg_itT ?_ | with_reducible refine wg_itC ?_ | with_reducible refine wg_itS ?_ | with_reducible refine wg_slL ?_ | with_reducible refine wg_slT ?_ | with_reducible refine wg_tupleL ?_ | with_reducible refine wg_tupleT ?_ | with_reducible refine wg_listL ?_ | with_reducible refine wg_listT ?_ | with_reducible refine wg_revL ?_ | with_reducible refine wg_revT ?_ | with_reducible refine wg_zipT ?_ | with_reducible refine wg_allM ?_ | with_reducible refine wg_anyM ?_ | with_reducible refine w_var (by with_unfolding_all rfl) ?_ | with_reducible refine wg_mul (Or.inr (by decide)) ?_ | with_reducible refine wg_mul (Or.inl (by decide)) ?_ | with_reducible refine wg_mod (by decide +kernel) ?_ | with_reducible refine wg_fdiv (by decide) ?_ | with_reducible refine wg_pow (by decide +kernel) ?_ | with_reducible refine wg_tup (by simp; done) ?_ | with_reducible refine wg_lst (by simp; done) ?_ | with_reducible refine w_dieSet (by decide) ?_ | with_reducible refine w_dieAt (by decide) (fun _ => ?_) | refine ⟨_, rfl, ?_⟩ | refine ⟨rfl, ?_⟩))
  refine (w_two a b hl).imp (fun r _ => ?_) fun _ _ x => x
  (repeat (first | with_reducible refine ws_seq ?_ | with_reducible refine ws_asg ?_ | with_reducible refine ws_ret ?_ | with_reducible refine ws_if ?_ | with_reducible refine ws_next ?_ | with_reducible refine ws_retN ?_ | with_reducible refine ws_brk ?_ | with_reducible refine ws_cont ?_ | with_reducible refine ws_drop ?_ | with_reducible refine ws_setI ?_ | with_reducible refine ws_for ?_ | with_reducible refine ws_par ?_ | with_reducible refine ws_frz ?_ | with_reducible refine ws_parO ?_ | with_reducible refine ws_setOwn ?_ | with_reducible refine ⟨fun _ => ?_, fun z => absurd rfl z⟩ | refine And.intro rt_nx fun _ => ?_ | refine And.intro bk_nx fun _ => ?_ | refine And.intro ct_nx fun _ => ?_ | with_reducible refine w_c2 ?_ | with_reducible refine w_c1 ?_ | with_reducible refine w_cA ?_ | with_reducible refine w_cons ?_ | with_reducible refine w_nil ?_ | with_reducible refine w_c ?_ | with_reducible refine w_call ?_ | with_reducible refine w_it ?_ | with_reducible refine w_rng1 ?_ | with_reducible refine w_rng2 ?_ | with_reducible refine w_m0 ?_ | with_reducible refine w_m1 ?_ | with_reducible refine w_sl ?_ | with_reducible refine w_part ?_ | with_reducible refine w_noP ?_ | with_reducible refine w_b ?_ | with_reducible refine w_notB ?_ | with_reducible refine w_if ?_ | with_reducible refine w_chain ?_ | with_reducible refine w_zip ?_ | with_reducible refine w_enum ?_ | with_reducible refine wg_add ?_ | with_reducible refine wg_sub ?_ | with_reducible refine wg_neg ?_ | with_reducible refine wg_lt ?_ | with_reducible refine wg_le ?_ | with_reducible refine wg_gt ?_ | with_reducible refine wg_ge ?_ | with_reducible refine wg_not ?_ | with_reducible refine wg_lenL ?_ | with_reducible refine wg_lenT ?_ | with_reducible refine wg_lenC ?_ | with_reducible refine wg_int ?_ | with_reducible refine wg_intB ?_ | with_reducible refine wg_abs ?_ | with_reducible refine wg_max2 ?_ | with_reducible refine wg_min2 ?_ | with_reducible refine wg_reprB ?_ | with_reducible refine wg_itL ?_ | with_reducible refine wg_itT ?_ | with_reducible refine wg_itC ?_ | with_reducible refine wg_itS ?_ | with_reducible refine wg_slL ?_ | with_reducible refine wg_slT ?_ | with_reducible refine wg_tupleL ?_ | with_reducible refine wg_tupleT ?_ | with_reducible refine wg_listL ?_ | with_reducible refine wg_listT ?_ | with_reducible refine wg_revL ?_ | with_reducible refine wg_revT ?_ | with_reducible refine wg_zipT ?_ | with_reducible refine wg_allM ?_ | with_reducible refine wg_anyM ?_ | with_reducible refine w_var (by with_unfolding_all rfl) ?_ | with_reducible refine wg_mul (Or.inr (by decide)) ?_ | with_reducible refine wg_mul (Or.inl (by decide)) ?_ | with_reducible refine wg_mod (by decide +kernel) ?_ | with_reducible refine wg_fdiv (by decide) ?_ | with_reducible refine wg_pow (by decide +kernel) ?_ | with_reducible refine wg_tup (by simp; done) ?_ | with_reducible refine wg_lst (by simp; done) ?_ | with_reducible refine w_dieSet (by decide) ?_ | with_reducible refine w_dieAt (by decide) (fun _ => ?_) | refine ⟨_, rfl, ?_⟩ | refine ⟨rfl, ?_⟩))
  exact w_plain a.2.1
theorem w_added {xs ys : List Int} (a : Wide xs) (b : Wide ys) (hl : xs.length = ys.length) : Wp I (F_added [bagD xs, bagD ys]) (fun r => r = bagD (sumW xs ys)) X := by
  refine w_def rfl ?_
  unfold b_added
  (repeat (first | with_reducible refine ws_seq ?_ | with_reducible refine ws_asg ?_ | with_reducible refine ws_ret ?_ | with_reducible refine ws_if ?_ | with_reducible refine ws_next ?_ | with_reducible refine ws_retN ?_ | with_reducible refine ws_brk ?_ | with_reducible refine ws_cont ?_ | with_reducible refine ws_drop ?_ | with_reducible refine ws_setI ?_ | with_reducible refine ws_for ?_ | with_reducible refine ws_par ?_ | with_reducible refine ws_frz ?_ | with_reducible refine ws_parO ?_ | with_reducible refine ws_setOwn ?_ | with_reducible refine ⟨fun _ => ?_, fun z => absurd rfl z⟩ | refine And.intro rt_nx fun _ => ?_ | refine And.intro bk_nx fun _ => ?_ | refine And.intro ct_nx fun _ => ?_ | with_reducible refine w_c2 ?_ | with_reducible refine w_c1 ?_ | with_reducible refine w_cA ?_ | with_reducible refine w_cons ?_ | with_reducible refine w_nil ?_ | with_reducible refine w_c ?_ | with_reducible refine w_call ?_ | with_reducible refine w_it ?_ | with_reducible refine w_rng1 ?_ | with_reducible refine w_rng2 ?_ | with_reducible refine w_m0 ?_ | with_reducible refine w_m1 ?_ | with_reducible refine w_sl ?_ | with_reducible refine w_part ?_ | with_reducible refine w_noP ?_ | with_reducible refine w_b ?_ | with_reducible refine w_notB ?_ | with_reducible refine w_if ?_ | with_reducible refine w_chain ?_ | with_reducible refine w_zip ?_ | with_reducible refine w_enum ?_ | with_reducible refine wg_add ?_ | with_reducible refine wg_sub ?_ | with_reducible refine wg_neg ?_ | with_reducible refine wg_lt ?_ | with_reducible refine wg_le ?_ | with_reducible refine wg_gt ?_ | with_reducible refine wg_ge ?_ | with_reducible refine wg_not ?_ | with_reducible refine wg_lenL ?_ | with_reducible refine wg_lenT ?_ | with_reducible refine wg_lenC ?_ | with_reducible refine wg_int ?_ | with_reducible refine wg_intB ?_ | with_reducible refine wg_abs ?_ | with_reducible refine wg_max2 ?_ | with_reducible refine wg_min2 ?_ | with_reducible refine wg_reprB ?_ | with_reducible refine wg_itL ?_ | with_reducible refine wg_itT ?_ | with_reducible refine wg_itC ?_ | with_reducible refine wg_itS ?_ | with_reducible refine wg_slL ?_ | with_reducible refine wg_slT ?_ | with_reducible refine wg_tupleL ?_ | with_reducible refine wg_tupleT ?_ | with_reducible refine wg_listL ?_ | with_reducible refine wg_listT ?_ | with_reducible refine wg_revL ?_ | with_reducible refine wg_revT ?_ | with_reducible refine wg_zipT ?_ | with_reducible refine wg_allM ?_ | with_reducible refine wg_anyM ?_ | with_reducible refine w_var (by with_unfolding_all rfl) ?_ | with_reducible refine wg_mul (Or.inr (by decide)) ?_ | with_reducible refine wg_mul (Or.inl (by decide)) ?_ | with_reducible refine wg_mod (by decide +kernel) ?_ | with_reducible refine wg_fdiv (by decide) ?_ | with_reducible refine wg_pow (by decide +kernel) ?_ | with_reducible refine wg_tup (by simp; done) ?_ | with_reducible refine wg_lst (by simp; done) ?_ | with_reducible refine w_dieSet (by decide) ?_ | with_reducible refine w_dieAt (by decide) (fun _ => ?_) | refine ⟨_, rfl, ?_⟩ | refine ⟨rfl, ?_⟩))
  refine (w_two a b hl).imp (fun r _ => ?_) fun _ _ x => x
  (repeat (first | with_reducible refine ws_seq ?_ | with_reducible refine ws_asg ?_ | with_reducible refine ws_ret ?_ | with_reducible refine ws_if ?_ | with_reducible refine ws_next ?_ | with_reducible refine ws_retN ?_ | with_reducible refine ws_brk ?_ | with_reducible refine ws_cont ?_ | with_reducible refine ws_drop ?_ | with_reducible refine ws_setI ?_ | with_reducible refine ws_for ?_ | with_reducible refine ws_par ?_ | with_reducible refine ws_frz ?_ | with_reducible refine ws_parO ?_ | with_reducible refine ws_setOwn ?_ | with_reducible refine ⟨fun _ => ?_, fun z => absurd rfl z⟩ | refine And.intro rt_nx fun _ => ?_ | refine And.intro bk_nx fun _ => ?_ | refine And.intro ct_nx fun _ => ?_ | with_reducible refine w_c2 ?_ | with_reducible refine w_c1 ?_ | with_reducible refine w_cA ?_ | with_reducible refine w_cons ?_ | with_reducible refine w_nil ?_ | with_reducible refine w_c ?_ | with_reducible refine w_call ?_ | with_reducible refine w_it ?_ | with_reducible refine w_rng1 ?_ | with_reducible refine w_rng2 ?_ | with_reducible refine w_m0 ?_ | with_reducible refine w_m1 ?_ | with_reducible refine w_sl ?_ | with_reducible refine w_part ?_ | with_reducible refine w_noP ?_ | with_reducible refine w_b ?_ | with_reducible refine w_notB ?_ | with_reducible refine w_if ?_ | with_reducible refine w_chain ?_ | with_reducible refine w_zip ?_ | with_reducible refine w_enum ?_ | with_reducible refine wg_add ?_ | with_reducible refine wg_sub ?_ | with_reducible refine wg_neg ?_ | with_reducible refine wg_lt ?_ | with_reducible refine wg_le ?_ | with_reducible refine wg_gt ?_ | with_reducible refine wg_ge ?_ | with_reducible refine wg_not ?_ | with_reducible refine wg_lenL ?_ | with_reducible refine wg_lenT ?_ | with_reducible refine wg_lenC ?_ | with_reducible refine wg_int ?_ | with_reducible refine wg_intB ?_ | with_reducible refine wg_abs ?_ | with_reducible refine wg_max2 ?_ | with_reducible refine wg_min2 ?_ | with_reducible refine wg_reprB ?_ | with_reducible refine wg_itL ?_ | with_reducible refine wg_itT ?_ | with_reducible refine wg_itC ?_ | with_reducible refine wg_itS ?_ | with_reducible refine wg_slL ?_ | with_reducible refine wg_slT ?_ | with_reducible refine wg_tupleL ?_ | with_reducible refine wg_tupleT ?_ | with_reducible refine wg_listL ?_ | with_reducible refine wg_listT ?_ | with_reducible refine wg_revL ?_ | with_reducible refine wg_revT ?_ | with_reducible refine wg_zipT ?_ | with_reducible refine wg_allM ?_ | with_reducible refine wg_anyM ?_ | with_reducible refine w_var (by with_unfolding_all rfl) ?_ | with_reducible refine wg_mul (Or.inr (by decide)) ?_ | with_reducible refine wg_mul (Or.inl (by decide)) ?_ | with_reducible refine wg_mod (by decide +kernel) ?_ | with_reducible refine wg_fdiv (by decide) ?_ | with_reducible refine wg_pow (by decide +kernel) ?_ | with_reducible refine wg_tup (by simp; done) ?_ | with_reducible refine wg_lst (by simp; done) ?_ | with_reducible refine w_dieSet (by decide) ?_ | with_reducible refine w_dieAt (by decide) (fun _ => ?_) | refine ⟨_, rfl, ?_⟩ | refine ⟨rfl, ?_⟩))
  exact w_sum a.2.1
end
end K03
namespace K03
open PySem PySem.Spec PyProof.Rows L2 DN KB SO
def unD : D → List Int
  | .tup xs => xs.map fun d => match d with | .int i => i | _ => 0
  | _ => []
theorem unD_bag (xs : List Int) : unD (bagD xs) = xs := by
  show (xs.map D.int).map (fun d => match d with | .int i => i | _ => 0) = xs
  rw [List.map_map]
  exact List.map_id _
theorem tups_any (q : List Int → Bool) (S : List (List Int)) : (tupsI S).any (fun d => q (unD d)) = S.any q := by
  unfold tupsI
  rw [List.any_map]
  congr 1
  funext x
  exact congrArg q (unD_bag x)
theorem tups_all (q : List Int → Bool) (S : List (List Int)) : (tupsI S).all (fun d => q (unD d)) = S.all q := by
  unfold tupsI
  rw [List.all_map]
  congr 1
  funext x
  exact congrArg q (unD_bag x)
theorem tups_filter (q : List Int → Bool) (S : List (List Int)) : ((tupsI S).filter fun d => q (unD d)) = tupsI (S.filter q) := by
  unfold tupsI
  rw [List.filter_map]
  congr 2
  funext x
  exact congrArg q (unD_bag x)
theorem tups_map (f : List Int → List Int) (S : List (List Int)) : ((tupsI S).map fun d => bagD (f (unD d))) = tupsI (S.map f) := by
  unfold tupsI
  rw [List.map_map, List.map_map]
  refine List.map_congr_left fun x _ => ?_
  show bagD (f (unD (bagD x))) = bagD (f x)
  rw [unD_bag]
theorem tups_len (S : List (List Int)) : (tupsI S).length = S.length := List.length_map _
theorem tups_mem {d : D} {S : List (List Int)} (h : d ∈ tupsI S) : ∃ x, d = bagD x ∧ x ∈ S := by
  obtain ⟨x, hx, e⟩ := List.mem_map.mp h
  exact ⟨x, e.symm, hx⟩
/-- wide bags of one length, few -/
structure Bags (n : Nat) (L : List (List Int)) : Prop where
  one : 1 ≤ n
  five : n ≤ 5
  few : L.length < 64
  len : ∀ x ∈ L, x.length = n
  wide : ∀ x ∈ L, ∀ e ∈ x, -1 ≤ e
theorem Bags.w {n : Nat} {L : List (List Int)} (b : Bags n L) {x : List Int} (h : x ∈ L) : Wide x := by
  have := b.len x h
  have := b.one
  have := b.five
  exact ⟨by omega, by omega, b.wide x h⟩
theorem len_insS (k : List Int) : ∀ xs : List (List Int), (insS k xs).length ≤ xs.length + 1
  | [] => Nat.le_refl _
  | x :: xs => by
    have := len_insS k xs
    unfold insS
    split
    · exact Nat.le_refl _
    · split
      · exact Nat.le_succ _
      · rw [List.length_cons, List.length_cons]; omega
theorem len_sortS : ∀ ks : List (List Int), (sortS ks).length ≤ ks.length
  | [] => Nat.le_refl _
  | k :: ks => by
    have a := len_sortS ks
    have b := len_insS k (sortS ks)
    show (insS k (sortS ks)).length ≤ _
    rw [List.length_cons]
    omega
theorem Bags.sub {n : Nat} {L M : List (List Int)} (b : Bags n L) (hl : M.length ≤ L.length) (hs : ∀ x ∈ M, x ∈ L) : Bags n M :=
  ⟨b.one, b.five, Nat.lt_of_le_of_lt hl b.few, fun x h => b.len x (hs x h), fun x h => b.wide x (hs x h)⟩
theorem Bags.sort {n : Nat} {L : List (List Int)} (b : Bags n L) : Bags n (sortS L) := b.sub (len_sortS L) fun _ h => mem_sortS.mp h
theorem Bags.top {n : Nat} {L : List (List Int)} (b : Bags n L) : Bags n (topG L) := b.sort.sub (List.length_filter_le _ _) fun _ h => (List.mem_filter.mp h).1
theorem Bags.low {n : Nat} {L : List (List Int)} (b : Bags n L) : Bags n (lowG L) := b.sort.sub (List.length_filter_le _ _) fun _ h => (List.mem_filter.mp h).1
section
variable {I : Store → Prop} {X : XP}
theorem wg_sortS {L : List (List Int)} {n : Nat} {P : D → Prop} (b : Bags n L) (h : P (.lst (tupsI (sortS L)))) : Wp I (gSortS (.lst (tupsI L))) P X := by
  refine wg_eqm ?_ h
  unfold gSortS sortSD
  dsimp only
  rw [keys_tups]
  exact if_pos ⟨b.few, even_of b.one b.len⟩
theorem wg_sortT {L : List (List Int)} {n : Nat} {P : D → Prop} (b : Bags n L) (h : P (.lst (tupsI (sortS L)))) : Wp I (gSortS (.tup (tupsI L))) P X := by
  refine wg_eqm ?_ h
  unfold gSortS sortSD
  dsimp only
  rw [keys_tups]
  exact if_pos ⟨b.few, even_of b.one b.len⟩
theorem wg_sortL {L : List (List Int)} {n : Nat} {P : D → Prop} (b : Bags n L) (h : P (.lst (tupsI (sortL L)))) : Wp I (gSort [.lst (tupsI L)]) P X := by
  refine wg_eqm ?_ h
  unfold gSort
  dsimp only
  rw [keys_tups]
  exact if_pos ⟨b.few, even_of b.one b.len⟩
theorem w_bags {n : Nat} {L : List (List Int)} (b : Bags n L) : Wp I (F_require_bags [.tup (tupsI L)]) (fun r => r = .non) X := by
  have few := b.few
  have len := tups_len L
  refine w_def rfl ?_
  unfold b_require_bags
  (repeat (first | with_reducible refine ws_seq ?_ | with_reducible refine ws_asg ?_ | with_reducible refine ws_ret ?_ | with_reducible refine ws_if ?_ | with_reducible refine ws_next ?_ | with_reducible refine ws_retN ?_ | with_reducible refine ws_brk ?_ | with_reducible refine ws_cont ?_ | with_reducible refine ws_drop ?_ | with_reducible refine ws_setI ?_ | with_reducible refine ws_for ?_ | with_reducible refine ws_par ?_ | with_reducible refine ws_frz ?_ | with_reducible refine ws_parO ?_ | with_reducible refine ws_setOwn ?_ | with_reducible refine ⟨fun _ => ?_, fun z => absurd rfl z⟩ | refine And.intro rt_nx fun _ => ?_ | refine And.intro bk_nx fun _ => ?_ | refine And.intro ct_nx fun _ => ?_ | with_reducible refine w_c2 ?_ | with_reducible refine w_c1 ?_ | with_reducible refine w_cA ?_ | with_reducible refine w_cons ?_ | with_reducible refine w_nil ?_ | with_reducible refine w_c ?_ | with_reducible refine w_call ?_ | with_reducible refine w_it ?_ | with_reducible refine w_rng1 ?_ | with_reducible refine w_rng2 ?_ | with_reducible refine w_m0 ?_ | with_reducible refine w_m1 ?_ | with_reducible refine w_sl ?_ | with_reducible refine w_part ?_ | with_reducible refine w_noP ?_ | with_reducible refine w_b ?_ | with_reducible refine w_notB ?_ | with_reducible refine w_if ?_ | with_reducible refine w_chain ?_ | with_reducible refine w_zip ?_ | with_reducible refine w_enum ?_ | with_reducible refine wg_add ?_ | with_reducible refine wg_sub ?_ | with_reducible refine wg_neg ?_ | with_reducible refine wg_lt ?_ | with_reducible refine wg_le ?_ | with_reducible refine wg_gt ?_ | with_reducible refine wg_ge ?_ | with_reducible refine wg_not ?_ | with_reducible refine wg_lenL ?_ | with_reducible refine wg_lenT ?_ | with_reducible refine wg_lenC ?_ | with_reducible refine wg_int ?_ | with_reducible refine wg_intB ?_ | with_reducible refine wg_abs ?_ | with_reducible refine wg_max2 ?_ | with_reducible refine wg_min2 ?_ | with_reducible refine wg_reprB ?_ | with_reducible refine wg_itL ?_ | with_reducible refine wg_itT ?_ | with_reducible refine wg_itC ?_ | with_reducible refine wg_itS ?_ | with_reducible refine wg_slL ?_ | with_reducible refine wg_slT ?_ | with_reducible refine wg_tupleL ?_ | with_reducible refine wg_tupleT ?_ | with_reducible refine wg_listL ?_ | with_reducible refine wg_listT ?_ | with_reducible refine wg_revL ?_ | with_reducible refine wg_revT ?_ | with_reducible refine wg_zipT ?_ | with_reducible refine wg_allM ?_ | with_reducible refine wg_anyM ?_ | with_reducible refine w_var (by with_unfolding_all rfl) ?_ | with_reducible refine wg_mul (Or.inr (by decide)) ?_ | with_reducible refine wg_mul (Or.inl (by decide)) ?_ | with_reducible refine wg_mod (by decide +kernel) ?_ | with_reducible refine wg_fdiv (by decide) ?_ | with_reducible refine wg_pow (by decide +kernel) ?_ | with_reducible refine wg_tup (by simp; done) ?_ | with_reducible refine wg_lst (by simp; done) ?_ | with_reducible refine w_dieSet (by decide) ?_ | with_reducible refine w_dieAt (by decide) (fun _ => ?_) | refine ⟨_, rfl, ?_⟩ | refine ⟨rfl, ?_⟩))
  refine w_orB ?_
  (repeat (first | with_reducible refine ws_seq ?_ | with_reducible refine ws_asg ?_ | with_reducible refine ws_ret ?_ | with_reducible refine ws_if ?_ | with_reducible refine ws_next ?_ | with_reducible refine ws_retN ?_ | with_reducible refine ws_brk ?_ | with_reducible refine ws_cont ?_ | with_reducible refine ws_drop ?_ | with_reducible refine ws_setI ?_ | with_reducible refine ws_for ?_ | with_reducible refine ws_par ?_ | with_reducible refine ws_frz ?_ | with_reducible refine ws_parO ?_ | with_reducible refine ws_setOwn ?_ | with_reducible refine ⟨fun _ => ?_, fun z => absurd rfl z⟩ | refine And.intro rt_nx fun _ => ?_ | refine And.intro bk_nx fun _ => ?_ | refine And.intro ct_nx fun _ => ?_ | with_reducible refine w_c2 ?_ | with_reducible refine w_c1 ?_ | with_reducible refine w_cA ?_ | with_reducible refine w_cons ?_ | with_reducible refine w_nil ?_ | with_reducible refine w_c ?_ | with_reducible refine w_call ?_ | with_reducible refine w_it ?_ | with_reducible refine w_rng1 ?_ | with_reducible refine w_rng2 ?_ | with_reducible refine w_m0 ?_ | with_reducible refine w_m1 ?_ | with_reducible refine w_sl ?_ | with_reducible refine w_part ?_ | with_reducible refine w_noP ?_ | with_reducible refine w_b ?_ | with_reducible refine w_notB ?_ | with_reducible refine w_if ?_ | with_reducible refine w_chain ?_ | with_reducible refine w_zip ?_ | with_reducible refine w_enum ?_ | with_reducible refine wg_add ?_ | with_reducible refine wg_sub ?_ | with_reducible refine wg_neg ?_ | with_reducible refine wg_lt ?_ | with_reducible refine wg_le ?_ | with_reducible refine wg_gt ?_ | with_reducible refine wg_ge ?_ | with_reducible refine wg_not ?_ | with_reducible refine wg_lenL ?_ | with_reducible refine wg_lenT ?_ | with_reducible refine wg_lenC ?_ | with_reducible refine wg_int ?_ | with_reducible refine wg_intB ?_ | with_reducible refine wg_abs ?_ | with_reducible refine wg_max2 ?_ | with_reducible refine wg_min2 ?_ | with_reducible refine wg_reprB ?_ | with_reducible refine wg_itL ?_ | with_reducible refine wg_itT ?_ | with_reducible refine wg_itC ?_ | with_reducible refine wg_itS ?_ | with_reducible refine wg_slL ?_ | with_reducible refine wg_slT ?_ | with_reducible refine wg_tupleL ?_ | with_reducible refine wg_tupleT ?_ | with_reducible refine wg_listL ?_ | with_reducible refine wg_listT ?_ | with_reducible refine wg_revL ?_ | with_reducible refine wg_revT ?_ | with_reducible refine wg_zipT ?_ | with_reducible refine wg_allM ?_ | with_reducible refine wg_anyM ?_ | with_reducible refine w_var (by with_unfolding_all rfl) ?_ | with_reducible refine wg_mul (Or.inr (by decide)) ?_ | with_reducible refine wg_mul (Or.inl (by decide)) ?_ | with_reducible refine wg_mod (by decide +kernel) ?_ | with_reducible refine wg_fdiv (by decide) ?_ | with_reducible refine wg_pow (by decide +kernel) ?_ | with_reducible refine wg_tup (by simp; done) ?_ | with_reducible refine wg_lst (by simp; done) ?_ | with_reducible refine w_dieSet (by decide) ?_ | with_reducible refine w_dieAt (by decide) (fun _ => ?_) | refine ⟨_, rfl, ?_⟩ | refine ⟨rfl, ?_⟩))
  refine wg_isTuple ⟨_, rfl⟩ ⟨_, rfl, fun _ => ?_, fun h => (nomatch h)⟩
  (repeat (first | with_reducible refine ws_seq ?_ | with_reducible refine ws_asg ?_ | with_reducible refine ws_ret ?_ | with_reducible refine ws_if ?_ | with_reducible refine ws_next ?_ | with_reducible refine ws_retN ?_ | with_reducible refine ws_brk ?_ | with_reducible refine ws_cont ?_ | with_reducible refine ws_drop ?_ | with_reducible refine ws_setI ?_ | with_reducible refine ws_for ?_ | with_reducible refine ws_par ?_ | with_reducible refine ws_frz ?_ | with_reducible refine ws_parO ?_ | with_reducible refine ws_setOwn ?_ | with_reducible refine ⟨fun _ => ?_, fun z => absurd rfl z⟩ | refine And.intro rt_nx fun _ => ?_ | refine And.intro bk_nx fun _ => ?_ | refine And.intro ct_nx fun _ => ?_ | with_reducible refine w_c2 ?_ | with_reducible refine w_c1 ?_ | with_reducible refine w_cA ?_ | with_reducible refine w_cons ?_ | with_reducible refine w_nil ?_ | with_reducible refine w_c ?_ | with_reducible refine w_call ?_ | with_reducible refine w_it ?_ | with_reducible refine w_rng1 ?_ | with_reducible refine w_rng2 ?_ | with_reducible refine w_m0 ?_ | with_reducible refine w_m1 ?_ | with_reducible refine w_sl ?_ | with_reducible refine w_part ?_ | with_reducible refine w_noP ?_ | with_reducible refine w_b ?_ | with_reducible refine w_notB ?_ | with_reducible refine w_if ?_ | with_reducible refine w_chain ?_ | with_reducible refine w_zip ?_ | with_reducible refine w_enum ?_ | with_reducible refine wg_add ?_ | with_reducible refine wg_sub ?_ | with_reducible refine wg_neg ?_ | with_reducible refine wg_lt ?_ | with_reducible refine wg_le ?_ | with_reducible refine wg_gt ?_ | with_reducible refine wg_ge ?_ | with_reducible refine wg_not ?_ | with_reducible refine wg_lenL ?_ | with_reducible refine wg_lenT ?_ | with_reducible refine wg_lenC ?_ | with_reducible refine wg_int ?_ | with_reducible refine wg_intB ?_ | with_reducible refine wg_abs ?_ | with_reducible refine wg_max2 ?_ | with_reducible refine wg_min2 ?_ | with_reducible refine wg_reprB ?_ | with_reducible refine wg_itL ?_ | with_reducible refine wg_itT ?_ | with_reducible refine wg_itC ?_ | with_reducible refine wg_itS ?_ | with_reducible refine wg_slL ?_ | with_reducible refine wg_slT ?_ | with_reducible refine wg_tupleL ?_ | with_reducible refine wg_tupleT ?_ | with_reducible refine wg_listL ?_ | with_reducible refine wg_listT ?_ | with_reducible refine wg_revL ?_ | with_reducible refine wg_revT ?_ | with_reducible refine wg_zipT ?_ | with_reducible refine wg_allM ?_ | with_reducible refine wg_anyM ?_ | with_reducible refine w_var (by with_unfolding_all rfl) ?_ | with_reducible refine wg_mul (Or.inr (by decide)) ?_ | with_reducible refine wg_mul (Or.inl (by decide)) ?_ | with_reducible refine wg_mod (by decide +kernel) ?_ | with_reducible refine wg_fdiv (by decide) ?_ | with_reducible refine wg_pow (by decide +kernel) ?_ | with_reducible refine wg_tup (by simp; done) ?_ | with_reducible refine wg_lst (by simp; done) ?_ | with_reducible refine w_dieSet (by decide) ?_ | with_reducible refine w_dieAt (by decide) (fun _ => ?_) | refine ⟨_, rfl, ?_⟩ | refine ⟨rfl, ?_⟩))
  refine w_compM (fun d => .bl (isBagOf (-1) d)) ?_
  (repeat (first | with_reducible refine ws_seq ?_ | with_reducible refine ws_asg ?_ | with_reducible refine ws_ret ?_ | with_reducible refine ws_if ?_ | with_reducible refine ws_next ?_ | with_reducible refine ws_retN ?_ | with_reducible refine ws_brk ?_ | with_reducible refine ws_cont ?_ | with_reducible refine ws_drop ?_ | with_reducible refine ws_setI ?_ | with_reducible refine ws_for ?_ | with_reducible refine ws_par ?_ | with_reducible refine ws_frz ?_ | with_reducible refine ws_parO ?_ | with_reducible refine ws_setOwn ?_ | with_reducible refine ⟨fun _ => ?_, fun z => absurd rfl z⟩ | refine And.intro rt_nx fun _ => ?_ | refine And.intro bk_nx fun _ => ?_ | refine And.intro ct_nx fun _ => ?_ | with_reducible refine w_c2 ?_ | with_reducible refine w_c1 ?_ | with_reducible refine w_cA ?_ | with_reducible refine w_cons ?_ | with_reducible refine w_nil ?_ | with_reducible refine w_c ?_ | with_reducible refine w_call ?_ | with_reducible refine w_it ?_ | with_reducible refine w_rng1 ?_ | with_reducible refine w_rng2 ?_ | with_reducible refine w_m0 ?_ | with_reducible refine w_m1 ?_ | with_reducible refine w_sl ?_ | with_reducible refine w_part ?_ | with_reducible refine w_noP ?_ | with_reducible refine w_b ?_ | with_reducible refine w_notB ?_ | with_reducible refine w_if ?_ | with_reducible refine w_chain ?_ | with_reducible refine w_zip ?_ | with_reducible refine w_enum ?_ | with_reducible refine wg_add ?_ | with_reducible refine wg_sub ?_ | with_reducible refine wg_neg ?_ | with_reducible refine wg_lt ?_ | with_reducible refine wg_le ?_ | with_reducible refine wg_gt ?_ | with_reducible refine wg_ge ?_ | with_reducible refine wg_not ?_ | with_reducible refine wg_lenL ?_ | with_reducible refine wg_lenT ?_ | with_reducible refine wg_lenC ?_ | with_reducible refine wg_int ?_ | with_reducible refine wg_intB ?_ | with_reducible refine wg_abs ?_ | with_reducible refine wg_max2 ?_ | with_reducible refine wg_min2 ?_ | with_reducible refine wg_reprB ?_ | with_reducible refine wg_itL ?_ | with_reducible refine wg_itT ?_ | with_reducible refine wg_itC ?_ | with_reducible refine wg_itS ?_ | with_reducible refine wg_slL ?_ | with_reducible refine wg_slT ?_ | with_reducible refine wg_tupleL ?_ | with_reducible refine wg_tupleT ?_ | with_reducible refine wg_listL ?_ | with_reducible refine wg_listT ?_ | with_reducible refine wg_revL ?_ | with_reducible refine wg_revT ?_ | with_reducible refine wg_zipT ?_ | with_reducible refine wg_allM ?_ | with_reducible refine wg_anyM ?_ | with_reducible refine w_var (by with_unfolding_all rfl) ?_ | with_reducible refine wg_mul (Or.inr (by decide)) ?_ | with_reducible refine wg_mul (Or.inl (by decide)) ?_ | with_reducible refine wg_mod (by decide +kernel) ?_ | with_reducible refine wg_fdiv (by decide) ?_ | with_reducible refine wg_pow (by decide +kernel) ?_ | with_reducible refine wg_tup (by simp; done) ?_ | with_reducible refine wg_lst (by simp; done) ?_ | with_reducible refine w_dieSet (by decide) ?_ | with_reducible refine w_dieAt (by decide) (fun _ => ?_) | refine ⟨_, rfl, ?_⟩ | refine ⟨rfl, ?_⟩))
  refine ⟨by omega, fun d hd => ⟨_, rfl, ?_⟩, ?_⟩
  · obtain ⟨x, rfl, hx⟩ := tups_mem hd
    (repeat (first | with_reducible refine ws_seq ?_ | with_reducible refine ws_asg ?_ | with_reducible refine ws_ret ?_ | with_reducible refine ws_if ?_ | with_reducible refine ws_next ?_ | with_reducible refine ws_retN ?_ | with_reducible refine ws_brk ?_ | with_reducible refine ws_cont ?_ | with_reducible refine ws_drop ?_ | with_reducible refine ws_setI ?_ | with_reducible refine ws_for ?_ | with_reducible refine ws_par ?_ | with_reducible refine ws_frz ?_ | with_reducible refine ws_parO ?_ | with_reducible refine ws_setOwn ?_ | with_reducible refine ⟨fun _ => ?_, fun z => absurd rfl z⟩ | refine And.intro rt_nx fun _ => ?_ | refine And.intro bk_nx fun _ => ?_ | refine And.intro ct_nx fun _ => ?_ | with_reducible refine w_c2 ?_ | with_reducible refine w_c1 ?_ | with_reducible refine w_cA ?_ | with_reducible refine w_cons ?_ | with_reducible refine w_nil ?_ | with_reducible refine w_c ?_ | with_reducible refine w_call ?_ | with_reducible refine w_it ?_ | with_reducible refine w_rng1 ?_ | with_reducible refine w_rng2 ?_ | with_reducible refine w_m0 ?_ | with_reducible refine w_m1 ?_ | with_reducible refine w_sl ?_ | with_reducible refine w_part ?_ | with_reducible refine w_noP ?_ | with_reducible refine w_b ?_ | with_reducible refine w_notB ?_ | with_reducible refine w_if ?_ | with_reducible refine w_chain ?_ | with_reducible refine w_zip ?_ | with_reducible refine w_enum ?_ | with_reducible refine wg_add ?_ | with_reducible refine wg_sub ?_ | with_reducible refine wg_neg ?_ | with_reducible refine wg_lt ?_ | with_reducible refine wg_le ?_ | with_reducible refine wg_gt ?_ | with_reducible refine wg_ge ?_ | with_reducible refine wg_not ?_ | with_reducible refine wg_lenL ?_ | with_reducible refine wg_lenT ?_ | with_reducible refine wg_lenC ?_ | with_reducible refine wg_int ?_ | with_reducible refine wg_intB ?_ | with_reducible refine wg_abs ?_ | with_reducible refine wg_max2 ?_ | with_reducible refine wg_min2 ?_ | with_reducible refine wg_reprB ?_ | with_reducible refine wg_itL ?_ | with_reducible refine wg_itT ?_ | with_reducible refine wg_itC ?_ | with_reducible refine wg_itS ?_ | with_reducible refine wg_slL ?_ | with_reducible refine wg_slT ?_ | with_reducible refine wg_tupleL ?_ | with_reducible refine wg_tupleT ?_ | with_reducible refine wg_listL ?_ | with_reducible refine wg_listT ?_ | with_reducible refine wg_revL ?_ | with_reducible refine wg_revT ?_ | with_reducible refine wg_zipT ?_ | with_reducible refine wg_allM ?_ | with_reducible refine wg_anyM ?_ | with_reducible refine w_var (by with_unfolding_all rfl) ?_ | with_reducible refine wg_mul (Or.inr (by decide)) ?_ | with_reducible refine wg_mul (Or.inl (by decide)) ?_ | with_reducible refine wg_mod (by decide +kernel) ?_ | with_reducible refine wg_fdiv (by decide) ?_ | with_reducible refine wg_pow (by decide +kernel) ?_ | with_reducible refine wg_tup (by simp; done) ?_ | with_reducible refine wg_lst (by simp; done) ?_ | with_reducible refine w_dieSet (by decide) ?_ | with_reducible refine w_dieAt (by decide) (fun _ => ?_) | refine ⟨_, rfl, ?_⟩ | refine ⟨rfl, ?_⟩))
    exact w_is_wide (ty2_bag (by have := (b.w hx).2.1; omega))
  · have e : (tupsI L).all (isBagOf (-1)) = true := by
      rw [List.all_eq_true]
      intro d hd
      obtain ⟨x, rfl, hx⟩ := tups_mem hd
      exact bag_ok (b.w hx)
    (repeat (first | with_reducible refine ws_seq ?_ | with_reducible refine ws_asg ?_ | with_reducible refine ws_ret ?_ | with_reducible refine ws_if ?_ | with_reducible refine ws_next ?_ | with_reducible refine ws_retN ?_ | with_reducible refine ws_brk ?_ | with_reducible refine ws_cont ?_ | with_reducible refine ws_drop ?_ | with_reducible refine ws_setI ?_ | with_reducible refine ws_for ?_ | with_reducible refine ws_par ?_ | with_reducible refine ws_frz ?_ | with_reducible refine ws_parO ?_ | with_reducible refine ws_setOwn ?_ | with_reducible refine ⟨fun _ => ?_, fun z => absurd rfl z⟩ | refine And.intro rt_nx fun _ => ?_ | refine And.intro bk_nx fun _ => ?_ | refine And.intro ct_nx fun _ => ?_ | with_reducible refine w_c2 ?_ | with_reducible refine w_c1 ?_ | with_reducible refine w_cA ?_ | with_reducible refine w_cons ?_ | with_reducible refine w_nil ?_ | with_reducible refine w_c ?_ | with_reducible refine w_call ?_ | with_reducible refine w_it ?_ | with_reducible refine w_rng1 ?_ | with_reducible refine w_rng2 ?_ | with_reducible refine w_m0 ?_ | with_reducible refine w_m1 ?_ | with_reducible refine w_sl ?_ | with_reducible refine w_part ?_ | with_reducible refine w_noP ?_ | with_reducible refine w_b ?_ | with_reducible refine w_notB ?_ | with_reducible refine w_if ?_ | with_reducible refine w_chain ?_ | with_reducible refine w_zip ?_ | with_reducible refine w_enum ?_ | with_reducible refine wg_add ?_ | with_reducible refine wg_sub ?_ | with_reducible refine wg_neg ?_ | with_reducible refine wg_lt ?_ | with_reducible refine wg_le ?_ | with_reducible refine wg_gt ?_ | with_reducible refine wg_ge ?_ | with_reducible refine wg_not ?_ | with_reducible refine wg_lenL ?_ | with_reducible refine wg_lenT ?_ | with_reducible refine wg_lenC ?_ | with_reducible refine wg_int ?_ | with_reducible refine wg_intB ?_ | with_reducible refine wg_abs ?_ | with_reducible refine wg_max2 ?_ | with_reducible refine wg_min2 ?_ | with_reducible refine wg_reprB ?_ | with_reducible refine wg_itL ?_ | with_reducible refine wg_itT ?_ | with_reducible refine wg_itC ?_ | with_reducible refine wg_itS ?_ | with_reducible refine wg_slL ?_ | with_reducible refine wg_slT ?_ | with_reducible refine wg_tupleL ?_ | with_reducible refine wg_tupleT ?_ | with_reducible refine wg_listL ?_ | with_reducible refine wg_listT ?_ | with_reducible refine wg_revL ?_ | with_reducible refine wg_revT ?_ | with_reducible refine wg_zipT ?_ | with_reducible refine wg_allM ?_ | with_reducible refine wg_anyM ?_ | with_reducible refine w_var (by with_unfolding_all rfl) ?_ | with_reducible refine wg_mul (Or.inr (by decide)) ?_ | with_reducible refine wg_mul (Or.inl (by decide)) ?_ | with_reducible refine wg_mod (by decide +kernel) ?_ | with_reducible refine wg_fdiv (by decide) ?_ | with_reducible refine wg_pow (by decide +kernel) ?_ | with_reducible refine wg_tup (by simp; done) ?_ | with_reducible refine wg_lst (by simp; done) ?_ | with_reducible refine w_dieSet (by decide) ?_ | with_reducible refine w_dieAt (by decide) (fun _ => ?_) | refine ⟨_, rfl, ?_⟩ | refine ⟨rfl, ?_⟩))
    rw [e]
    refine ⟨fun h => (nomatch h), fun _ => ?_⟩
    (repeat (first | with_reducible refine ws_seq ?_ | with_reducible refine ws_asg ?_ | with_reducible refine ws_ret ?_ | with_reducible refine ws_if ?_ | with_reducible refine ws_next ?_ | with_reducible refine ws_retN ?_ | with_reducible refine ws_brk ?_ | with_reducible refine ws_cont ?_ | with_reducible refine ws_drop ?_ | with_reducible refine ws_setI ?_ | with_reducible refine ws_for ?_ | with_reducible refine ws_par ?_ | with_reducible refine ws_frz ?_ | with_reducible refine ws_parO ?_ | with_reducible refine ws_setOwn ?_ | with_reducible refine ⟨fun _ => ?_, fun z => absurd rfl z⟩ | refine And.intro rt_nx fun _ => ?_ | refine And.intro bk_nx fun _ => ?_ | refine And.intro ct_nx fun _ => ?_ | with_reducible refine w_c2 ?_ | with_reducible refine w_c1 ?_ | with_reducible refine w_cA ?_ | with_reducible refine w_cons ?_ | with_reducible refine w_nil ?_ | with_reducible refine w_c ?_ | with_reducible refine w_call ?_ | with_reducible refine w_it ?_ | with_reducible refine w_rng1 ?_ | with_reducible refine w_rng2 ?_ | with_reducible refine w_m0 ?_ | with_reducible refine w_m1 ?_ | with_reducible refine w_sl ?_ | with_reducible refine w_part ?_ | with_reducible refine w_noP ?_ | with_reducible refine w_b ?_ | with_reducible refine w_notB ?_ | with_reducible refine w_if ?_ | with_reducible refine w_chain ?_ | with_reducible refine w_zip ?_ | with_reducible refine w_enum ?_ | with_reducible refine wg_add ?_ | with_reducible refine wg_sub ?_ | with_reducible refine wg_neg ?_ | with_reducible refine wg_lt ?_ | with_reducible refine wg_le ?_ | with_reducible refine wg_gt ?_ | with_reducible refine wg_ge ?_ | with_reducible refine wg_not ?_ | with_reducible refine wg_lenL ?_ | with_reducible refine wg_lenT ?_ | with_reducible refine wg_lenC ?_ | with_reducible refine wg_int ?_ | with_reducible refine wg_intB ?_ | with_reducible refine wg_abs ?_ | with_reducible refine wg_max2 ?_ | with_reducible refine wg_min2 ?_ | with_reducible refine wg_reprB ?_ | with_reducible refine wg_itL ?_ | with_reducible refine wg_itT ?_ | with_reducible refine wg_itC ?_ | with_reducible refine wg_itS ?_ | with_reducible refine wg_slL ?_ | with_reducible refine wg_slT ?_ | with_reducible refine wg_tupleL ?_ | with_reducible refine wg_tupleT ?_ | with_reducible refine wg_listL ?_ | with_reducible refine wg_listT ?_ | with_reducible refine wg_revL ?_ | with_reducible refine wg_revT ?_ | with_reducible refine wg_zipT ?_ | with_reducible refine wg_allM ?_ | with_reducible refine wg_anyM ?_ | with_reducible refine w_var (by with_unfolding_all rfl) ?_ | with_reducible refine wg_mul (Or.inr (by decide)) ?_ | with_reducible refine wg_mul (Or.inl (by decide)) ?_ | with_reducible refine wg_mod (by decide +kernel) ?_ | with_reducible refine wg_fdiv (by decide) ?_ | with_reducible refine wg_pow (by decide +kernel) ?_ | with_reducible refine wg_tup (by simp; done) ?_ | with_reducible refine wg_lst (by simp; done) ?_ | with_reducible refine w_dieSet (by decide) ?_ | with_reducible refine w_dieAt (by decide) (fun _ => ?_) | refine ⟨_, rfl, ?_⟩ | refine ⟨rfl, ?_⟩))
    refine w_compM (fun d => .bl false) ?_
    (repeat (first | with_reducible refine ws_seq ?_ | with_reducible refine ws_asg ?_ | with_reducible refine ws_ret ?_ | with_reducible refine ws_if ?_ | with_reducible refine ws_next ?_ | with_reducible refine ws_retN ?_ | with_reducible refine ws_brk ?_ | with_reducible refine ws_cont ?_ | with_reducible refine ws_drop ?_ | with_reducible refine ws_setI ?_ | with_reducible refine ws_for ?_ | with_reducible refine ws_par ?_ | with_reducible refine ws_frz ?_ | with_reducible refine ws_parO ?_ | with_reducible refine ws_setOwn ?_ | with_reducible refine ⟨fun _ => ?_, fun z => absurd rfl z⟩ | refine And.intro rt_nx fun _ => ?_ | refine And.intro bk_nx fun _ => ?_ | refine And.intro ct_nx fun _ => ?_ | with_reducible refine w_c2 ?_ | with_reducible refine w_c1 ?_ | with_reducible refine w_cA ?_ | with_reducible refine w_cons ?_ | with_reducible refine w_nil ?_ | with_reducible refine w_c ?_ | with_reducible refine w_call ?_ | with_reducible refine w_it ?_ | with_reducible refine w_rng1 ?_ | with_reducible refine w_rng2 ?_ | with_reducible refine w_m0 ?_ | with_reducible refine w_m1 ?_ | with_reducible refine w_sl ?_ | with_reducible refine w_part ?_ | with_reducible refine w_noP ?_ | with_reducible refine w_b ?_ | with_reducible refine w_notB ?_ | with_reducible refine w_if ?_ | with_reducible refine w_chain ?_ | with_reducible refine w_zip ?_ | with_reducible refine w_enum ?_ | with_reducible refine wg_add ?_ | with_reducible refine wg_sub ?_ | with_reducible refine wg_neg ?_ | with_reducible refine wg_lt ?_ | with_reducible refine wg_le ?_ | with_reducible refine wg_gt ?_ | with_reducible refine wg_ge ?_ | with_reducible refine wg_not ?_ | with_reducible refine wg_lenL ?_ | with_reducible refine wg_lenT ?_ | with_reducible refine wg_lenC ?_ | with_reducible refine wg_int ?_ | with_reducible refine wg_intB ?_ | with_reducible refine wg_abs ?_ | with_reducible refine wg_max2 ?_ | with_reducible refine wg_min2 ?_ | with_reducible refine wg_reprB ?_ | with_reducible refine wg_itL ?_ | with_reducible refine wg_itT ?_ | with_reducible refine wg_itC ?_ | with_reducible refine wg_itS ?_ | with_reducible refine wg_slL ?_ | with_reducible refine wg_slT ?_ | with_reducible refine wg_tupleL ?_ | with_reducible refine wg_tupleT ?_ | with_reducible refine wg_listL ?_ | with_reducible refine wg_listT ?_ | with_reducible refine wg_revL ?_ | with_reducible refine wg_revT ?_ | with_reducible refine wg_zipT ?_ | with_reducible refine wg_allM ?_ | with_reducible refine wg_anyM ?_ | with_reducible refine w_var (by with_unfolding_all rfl) ?_ | with_reducible refine wg_mul (Or.inr (by decide)) ?_ | with_reducible refine wg_mul (Or.inl (by decide)) ?_ | with_reducible refine wg_mod (by decide +kernel) ?_ | with_reducible refine wg_fdiv (by decide) ?_ | with_reducible refine wg_pow (by decide +kernel) ?_ | with_reducible refine wg_tup (by simp; done) ?_ | with_reducible refine wg_lst (by simp; done) ?_ | with_reducible refine w_dieSet (by decide) ?_ | with_reducible refine w_dieAt (by decide) (fun _ => ?_) | refine ⟨_, rfl, ?_⟩ | refine ⟨rfl, ?_⟩))
    refine ⟨by omega, fun d hd => ⟨_, rfl, ?_⟩, ?_⟩
    · obtain ⟨x, rfl, hx⟩ := tups_mem hd
      cases L with
      | nil => cases hx
      | cons y L =>
        unfold bagD
        (repeat (first | with_reducible refine ws_seq ?_ | with_reducible refine ws_asg ?_ | with_reducible refine ws_ret ?_ | with_reducible refine ws_if ?_ | with_reducible refine ws_next ?_ | with_reducible refine ws_retN ?_ | with_reducible refine ws_brk ?_ | with_reducible refine ws_cont ?_ | with_reducible refine ws_drop ?_ | with_reducible refine ws_setI ?_ | with_reducible refine ws_for ?_ | with_reducible refine ws_par ?_ | with_reducible refine ws_frz ?_ | with_reducible refine ws_parO ?_ | with_reducible refine ws_setOwn ?_ | with_reducible refine ⟨fun _ => ?_, fun z => absurd rfl z⟩ | refine And.intro rt_nx fun _ => ?_ | refine And.intro bk_nx fun _ => ?_ | refine And.intro ct_nx fun _ => ?_ | with_reducible refine w_c2 ?_ | with_reducible refine w_c1 ?_ | with_reducible refine w_cA ?_ | with_reducible refine w_cons ?_ | with_reducible refine w_nil ?_ | with_reducible refine w_c ?_ | with_reducible refine w_call ?_ | with_reducible refine w_it ?_ | with_reducible refine w_rng1 ?_ | with_reducible refine w_rng2 ?_ | with_reducible refine w_m0 ?_ | with_reducible refine w_m1 ?_ | with_reducible refine w_sl ?_ | with_reducible refine w_part ?_ | with_reducible refine w_noP ?_ | with_reducible refine w_b ?_ | with_reducible refine w_notB ?_ | with_reducible refine w_if ?_ | with_reducible refine w_chain ?_ | with_reducible refine w_zip ?_ | with_reducible refine w_enum ?_ | with_reducible refine wg_add ?_ | with_reducible refine wg_sub ?_ | with_reducible refine wg_neg ?_ | with_reducible refine wg_lt ?_ | with_reducible refine wg_le ?_ | with_reducible refine wg_gt ?_ | with_reducible refine wg_ge ?_ | with_reducible refine wg_not ?_ | with_reducible refine wg_lenL ?_ | with_reducible refine wg_lenT ?_ | with_reducible refine wg_lenC ?_ | with_reducible refine wg_int ?_ | with_reducible refine wg_intB ?_ | with_reducible refine wg_abs ?_ | with_reducible refine wg_max2 ?_ | with_reducible refine wg_min2 ?_ | with_reducible refine wg_reprB ?_ | with_reducible refine wg_itL ?_ | with_reducible refine wg_itT ?_ | with_reducible refine wg_itC ?_ | with_reducible refine wg_itS ?_ | with_reducible refine wg_slL ?_ | with_reducible refine wg_slT ?_ | with_reducible refine wg_tupleL ?_ | with_reducible refine wg_tupleT ?_ | with_reducible refine wg_listL ?_ | with_reducible refine wg_listT ?_ | with_reducible refine wg_revL ?_ | with_reducible refine wg_revT ?_ | with_reducible refine wg_zipT ?_ | with_reducible refine wg_allM ?_ | with_reducible refine wg_anyM ?_ | with_reducible refine w_var (by with_unfolding_all rfl) ?_ | with_reducible refine wg_mul (Or.inr (by decide)) ?_ | with_reducible refine wg_mul (Or.inl (by decide)) ?_ | with_reducible refine wg_mod (by decide +kernel) ?_ | with_reducible refine wg_fdiv (by decide) ?_ | with_reducible refine wg_pow (by decide +kernel) ?_ | with_reducible refine wg_tup (by simp; done) ?_ | with_reducible refine wg_lst (by simp; done) ?_ | with_reducible refine w_dieSet (by decide) ?_ | with_reducible refine w_dieAt (by decide) (fun _ => ?_) | refine ⟨_, rfl, ?_⟩ | refine ⟨rfl, ?_⟩))
        refine wg_ixT (d := .tup (y.map D.int)) ((atI_nat (i := 0) (k := 0) rfl (by rw [tups_len]; exact Nat.succ_pos _)).trans rfl) ?_
        (repeat (first | with_reducible refine ws_seq ?_ | with_reducible refine ws_asg ?_ | with_reducible refine ws_ret ?_ | with_reducible refine ws_if ?_ | with_reducible refine ws_next ?_ | with_reducible refine ws_retN ?_ | with_reducible refine ws_brk ?_ | with_reducible refine ws_cont ?_ | with_reducible refine ws_drop ?_ | with_reducible refine ws_setI ?_ | with_reducible refine ws_for ?_ | with_reducible refine ws_par ?_ | with_reducible refine ws_frz ?_ | with_reducible refine ws_parO ?_ | with_reducible refine ws_setOwn ?_ | with_reducible refine ⟨fun _ => ?_, fun z => absurd rfl z⟩ | refine And.intro rt_nx fun _ => ?_ | refine And.intro bk_nx fun _ => ?_ | refine And.intro ct_nx fun _ => ?_ | with_reducible refine w_c2 ?_ | with_reducible refine w_c1 ?_ | with_reducible refine w_cA ?_ | with_reducible refine w_cons ?_ | with_reducible refine w_nil ?_ | with_reducible refine w_c ?_ | with_reducible refine w_call ?_ | with_reducible refine w_it ?_ | with_reducible refine w_rng1 ?_ | with_reducible refine w_rng2 ?_ | with_reducible refine w_m0 ?_ | with_reducible refine w_m1 ?_ | with_reducible refine w_sl ?_ | with_reducible refine w_part ?_ | with_reducible refine w_noP ?_ | with_reducible refine w_b ?_ | with_reducible refine w_notB ?_ | with_reducible refine w_if ?_ | with_reducible refine w_chain ?_ | with_reducible refine w_zip ?_ | with_reducible refine w_enum ?_ | with_reducible refine wg_add ?_ | with_reducible refine wg_sub ?_ | with_reducible refine wg_neg ?_ | with_reducible refine wg_lt ?_ | with_reducible refine wg_le ?_ | with_reducible refine wg_gt ?_ | with_reducible refine wg_ge ?_ | with_reducible refine wg_not ?_ | with_reducible refine wg_lenL ?_ | with_reducible refine wg_lenT ?_ | with_reducible refine wg_lenC ?_ | with_reducible refine wg_int ?_ | with_reducible refine wg_intB ?_ | with_reducible refine wg_abs ?_ | with_reducible refine wg_max2 ?_ | with_reducible refine wg_min2 ?_ | with_reducible refine wg_reprB ?_ | with_reducible refine wg_itL ?_ | with_reducible refine wg_itT ?_ | with_reducible refine wg_itC ?_ | with_reducible refine wg_itS ?_ | with_reducible refine wg_slL ?_ | with_reducible refine wg_slT ?_ | with_reducible refine wg_tupleL ?_ | with_reducible refine wg_tupleT ?_ | with_reducible refine wg_listL ?_ | with_reducible refine wg_listT ?_ | with_reducible refine wg_revL ?_ | with_reducible refine wg_revT ?_ | with_reducible refine wg_zipT ?_ | with_reducible refine wg_allM ?_ | with_reducible refine wg_anyM ?_ | with_reducible refine w_var (by with_unfolding_all rfl) ?_ | with_reducible refine wg_mul (Or.inr (by decide)) ?_ | with_reducible refine wg_mul (Or.inl (by decide)) ?_ | with_reducible refine wg_mod (by decide +kernel) ?_ | with_reducible refine wg_fdiv (by decide) ?_ | with_reducible refine wg_pow (by decide +kernel) ?_ | with_reducible refine wg_tup (by simp; done) ?_ | with_reducible refine wg_lst (by simp; done) ?_ | with_reducible refine w_dieSet (by decide) ?_ | with_reducible refine w_dieAt (by decide) (fun _ => ?_) | refine ⟨_, rfl, ?_⟩ | refine ⟨rfl, ?_⟩))
        refine wg_ne (eqD_int _ _) ?_
        rw [List.length_map, List.length_map, decide_eq_true (by rw [b.len x hx, b.len y List.mem_cons_self])]
        rfl
    · (repeat (first | with_reducible refine ws_seq ?_ | with_reducible refine ws_asg ?_ | with_reducible refine ws_ret ?_ | with_reducible refine ws_if ?_ | with_reducible refine ws_next ?_ | with_reducible refine ws_retN ?_ | with_reducible refine ws_brk ?_ | with_reducible refine ws_cont ?_ | with_reducible refine ws_drop ?_ | with_reducible refine ws_setI ?_ | with_reducible refine ws_for ?_ | with_reducible refine ws_par ?_ | with_reducible refine ws_frz ?_ | with_reducible refine ws_parO ?_ | with_reducible refine ws_setOwn ?_ | with_reducible refine ⟨fun _ => ?_, fun z => absurd rfl z⟩ | refine And.intro rt_nx fun _ => ?_ | refine And.intro bk_nx fun _ => ?_ | refine And.intro ct_nx fun _ => ?_ | with_reducible refine w_c2 ?_ | with_reducible refine w_c1 ?_ | with_reducible refine w_cA ?_ | with_reducible refine w_cons ?_ | with_reducible refine w_nil ?_ | with_reducible refine w_c ?_ | with_reducible refine w_call ?_ | with_reducible refine w_it ?_ | with_reducible refine w_rng1 ?_ | with_reducible refine w_rng2 ?_ | with_reducible refine w_m0 ?_ | with_reducible refine w_m1 ?_ | with_reducible refine w_sl ?_ | with_reducible refine w_part ?_ | with_reducible refine w_noP ?_ | with_reducible refine w_b ?_ | with_reducible refine w_notB ?_ | with_reducible refine w_if ?_ | with_reducible refine w_chain ?_ | with_reducible refine w_zip ?_ | with_reducible refine w_enum ?_ | with_reducible refine wg_add ?_ | with_reducible refine wg_sub ?_ | with_reducible refine wg_neg ?_ | with_reducible refine wg_lt ?_ | with_reducible refine wg_le ?_ | with_reducible refine wg_gt ?_ | with_reducible refine wg_ge ?_ | with_reducible refine wg_not ?_ | with_reducible refine wg_lenL ?_ | with_reducible refine wg_lenT ?_ | with_reducible refine wg_lenC ?_ | with_reducible refine wg_int ?_ | with_reducible refine wg_intB ?_ | with_reducible refine wg_abs ?_ | with_reducible refine wg_max2 ?_ | with_reducible refine wg_min2 ?_ | with_reducible refine wg_reprB ?_ | with_reducible refine wg_itL ?_ | with_reducible refine wg_itT ?_ | with_reducible refine wg_itC ?_ | with_reducible refine wg_itS ?_ | with_reducible refine wg_slL ?_ | with_reducible refine wg_slT ?_ | with_reducible refine wg_tupleL ?_ | with_reducible refine wg_tupleT ?_ | with_reducible refine wg_listL ?_ | with_reducible refine wg_listT ?_ | with_reducible refine wg_revL ?_ | with_reducible refine wg_revT ?_ | with_reducible refine wg_zipT ?_ | with_reducible refine wg_allM ?_ | with_reducible refine wg_anyM ?_ | with_reducible refine w_var (by with_unfolding_all rfl) ?_ | with_reducible refine wg_mul (Or.inr (by decide)) ?_ | with_reducible refine wg_mul (Or.inl (by decide)) ?_ | with_reducible refine wg_mod (by decide +kernel) ?_ | with_reducible refine wg_fdiv (by decide) ?_ | with_reducible refine wg_pow (by decide +kernel) ?_ | with_reducible refine wg_tup (by simp; done) ?_ | with_reducible refine wg_lst (by simp; done) ?_ | with_reducible refine w_dieSet (by decide) ?_ | with_reducible refine w_dieAt (by decide) (fun _ => ?_) | refine ⟨_, rfl, ?_⟩ | refine ⟨rfl, ?_⟩))
      rw [List.any_eq_false.mpr fun _ _ h => Bool.false_ne_true h]
      refine ⟨fun h => (nomatch h), fun _ => ?_⟩
      (repeat (first | with_reducible refine ws_seq ?_ | with_reducible refine ws_asg ?_ | with_reducible refine ws_ret ?_ | with_reducible refine ws_if ?_ | with_reducible refine ws_next ?_ | with_reducible refine ws_retN ?_ | with_reducible refine ws_brk ?_ | with_reducible refine ws_cont ?_ | with_reducible refine ws_drop ?_ | with_reducible refine ws_setI ?_ | with_reducible refine ws_for ?_ | with_reducible refine ws_par ?_ | with_reducible refine ws_frz ?_ | with_reducible refine ws_parO ?_ | with_reducible refine ws_setOwn ?_ | with_reducible refine ⟨fun _ => ?_, fun z => absurd rfl z⟩ | refine And.intro rt_nx fun _ => ?_ | refine And.intro bk_nx fun _ => ?_ | refine And.intro ct_nx fun _ => ?_ | with_reducible refine w_c2 ?_ | with_reducible refine w_c1 ?_ | with_reducible refine w_cA ?_ | with_reducible refine w_cons ?_ | with_reducible refine w_nil ?_ | with_reducible refine w_c ?_ | with_reducible refine w_call ?_ | with_reducible refine w_it ?_ | with_reducible refine w_rng1 ?_ | with_reducible refine w_rng2 ?_ | with_reducible refine w_m0 ?_ | with_reducible refine w_m1 ?_ | with_reducible refine w_sl ?_ | with_reducible refine w_part ?_ | with_reducible refine w_noP ?_ | with_reducible refine w_b ?_ | with_reducible refine w_notB ?_ | with_reducible refine w_if ?_ | with_reducible refine w_chain ?_ | with_reducible refine w_zip ?_ | with_reducible refine w_enum ?_ | with_reducible refine wg_add ?_ | with_reducible refine wg_sub ?_ | with_reducible refine wg_neg ?_ | with_reducible refine wg_lt ?_ | with_reducible refine wg_le ?_ | with_reducible refine wg_gt ?_ | with_reducible refine wg_ge ?_ | with_reducible refine wg_not ?_ | with_reducible refine wg_lenL ?_ | with_reducible refine wg_lenT ?_ | with_reducible refine wg_lenC ?_ | with_reducible refine wg_int ?_ | with_reducible refine wg_intB ?_ | with_reducible refine wg_abs ?_ | with_reducible refine wg_max2 ?_ | with_reducible refine wg_min2 ?_ | with_reducible refine wg_reprB ?_ | with_reducible refine wg_itL ?_ | with_reducible refine wg_itT ?_ | with_reducible refine wg_itC ?_ | with_reducible refine wg_itS ?_ | with_reducible refine wg_slL ?_ | with_reducible refine wg_slT ?_ | with_reducible refine wg_tupleL ?_ | with_reducible refine wg_tupleT ?_ | with_reducible refine wg_listL ?_ | with_reducible refine wg_listT ?_ | with_reducible refine wg_revL ?_ | with_reducible refine wg_revT ?_ | with_reducible refine wg_zipT ?_ | with_reducible refine wg_allM ?_ | with_reducible refine wg_anyM ?_ | with_reducible refine w_var (by with_unfolding_all rfl) ?_ | with_reducible refine wg_mul (Or.inr (by decide)) ?_ | with_reducible refine wg_mul (Or.inl (by decide)) ?_ | with_reducible refine wg_mod (by decide +kernel) ?_ | with_reducible refine wg_fdiv (by decide) ?_ | with_reducible refine wg_pow (by decide +kernel) ?_ | with_reducible refine wg_tup (by simp; done) ?_ | with_reducible refine wg_lst (by simp; done) ?_ | with_reducible refine w_dieSet (by decide) ?_ | with_reducible refine w_dieAt (by decide) (fun _ => ?_) | refine ⟨_, rfl, ?_⟩ | refine ⟨rfl, ?_⟩))
      rfl
theorem w_greatest_of {n : Nat} {L : List (List Int)} (b : Bags n L) : Wp I (F_greatest_of [.lst (tupsI L)]) (fun r => r = .tup (tupsI (topG L))) X := by
  have bs := b.sort
  have few := bs.few
  have len := tups_len (sortS L)
  refine w_def rfl ?_
  unfold b_greatest_of
  (repeat (first | with_reducible refine ws_seq ?_ | with_reducible refine ws_asg ?_ | with_reducible refine ws_ret ?_ | with_reducible refine ws_if ?_ | with_reducible refine ws_next ?_ | with_reducible refine ws_retN ?_ | with_reducible refine ws_brk ?_ | with_reducible refine ws_cont ?_ | with_reducible refine ws_drop ?_ | with_reducible refine ws_setI ?_ | with_reducible refine ws_for ?_ | with_reducible refine ws_par ?_ | with_reducible refine ws_frz ?_ | with_reducible refine ws_parO ?_ | with_reducible refine ws_setOwn ?_ | with_reducible refine ⟨fun _ => ?_, fun z => absurd rfl z⟩ | refine And.intro rt_nx fun _ => ?_ | refine And.intro bk_nx fun _ => ?_ | refine And.intro ct_nx fun _ => ?_ | with_reducible refine w_c2 ?_ | with_reducible refine w_c1 ?_ | with_reducible refine w_cA ?_ | with_reducible refine w_cons ?_ | with_reducible refine w_nil ?_ | with_reducible refine w_c ?_ | with_reducible refine w_call ?_ | with_reducible refine w_it ?_ | with_reducible refine w_rng1 ?_ | with_reducible refine w_rng2 ?_ | with_reducible refine w_m0 ?_ | with_reducible refine w_m1 ?_ | with_reducible refine w_sl ?_ | with_reducible refine w_part ?_ | with_reducible refine w_noP ?_ | with_reducible refine w_b ?_ | with_reducible refine w_notB ?_ | with_reducible refine w_if ?_ | with_reducible refine w_chain ?_ | with_reducible refine w_zip ?_ | with_reducible refine w_enum ?_ | with_reducible refine wg_add ?_ | with_reducible refine wg_sub ?_ | with_reducible refine wg_neg ?_ | with_reducible refine wg_lt ?_ | with_reducible refine wg_le ?_ | with_reducible refine wg_gt ?_ | with_reducible refine wg_ge ?_ | with_reducible refine wg_not ?_ | with_reducible refine wg_lenL ?_ | with_reducible refine wg_lenT ?_ | with_reducible refine wg_lenC ?_ | with_reducible refine wg_int ?_ | with_reducible refine wg_intB ?_ | with_reducible refine wg_abs ?_ | with_reducible refine wg_max2 ?_ | with_reducible refine wg_min2 ?_ | with_reducible refine wg_reprB ?_ | with_reducible refine wg_itL ?_ | with_reducible refine wg_itT ?_ | with_reducible refine wg_itC ?_ | with_reducible refine wg_itS ?_ | with_reducible refine wg_slL ?_ | with_reducible refine wg_slT ?_ | with_reducible refine wg_tupleL ?_ | with_reducible refine wg_tupleT ?_ | with_reducible refine wg_listL ?_ | with_reducible refine wg_listT ?_ | with_reducible refine wg_revL ?_ | with_reducible refine wg_revT ?_ | with_reducible refine wg_zipT ?_ | with_reducible refine wg_allM ?_ | with_reducible refine wg_anyM ?_ | with_reducible refine w_var (by with_unfolding_all rfl) ?_ | with_reducible refine wg_mul (Or.inr (by decide)) ?_ | with_reducible refine wg_mul (Or.inl (by decide)) ?_ | with_reducible refine wg_mod (by decide +kernel) ?_ | with_reducible refine wg_fdiv (by decide) ?_ | with_reducible refine wg_pow (by decide +kernel) ?_ | with_reducible refine wg_tup (by simp; done) ?_ | with_reducible refine wg_lst (by simp; done) ?_ | with_reducible refine w_dieSet (by decide) ?_ | with_reducible refine w_dieAt (by decide) (fun _ => ?_) | refine ⟨_, rfl, ?_⟩ | refine ⟨rfl, ?_⟩))
  refine wg_sortS b ?_
  (repeat (first | with_reducible refine ws_seq ?_ | with_reducible refine ws_asg ?_ | with_reducible refine ws_ret ?_ | with_reducible refine ws_if ?_ | with_reducible refine ws_next ?_ | with_reducible refine ws_retN ?_ | with_reducible refine ws_brk ?_ | with_reducible refine ws_cont ?_ | with_reducible refine ws_drop ?_ | with_reducible refine ws_setI ?_ | with_reducible refine ws_for ?_ | with_reducible refine ws_par ?_ | with_reducible refine ws_frz ?_ | with_reducible refine ws_parO ?_ | with_reducible refine ws_setOwn ?_ | with_reducible refine ⟨fun _ => ?_, fun z => absurd rfl z⟩ | refine And.intro rt_nx fun _ => ?_ | refine And.intro bk_nx fun _ => ?_ | refine And.intro ct_nx fun _ => ?_ | with_reducible refine w_c2 ?_ | with_reducible refine w_c1 ?_ | with_reducible refine w_cA ?_ | with_reducible refine w_cons ?_ | with_reducible refine w_nil ?_ | with_reducible refine w_c ?_ | with_reducible refine w_call ?_ | with_reducible refine w_it ?_ | with_reducible refine w_rng1 ?_ | with_reducible refine w_rng2 ?_ | with_reducible refine w_m0 ?_ | with_reducible refine w_m1 ?_ | with_reducible refine w_sl ?_ | with_reducible refine w_part ?_ | with_reducible refine w_noP ?_ | with_reducible refine w_b ?_ | with_reducible refine w_notB ?_ | with_reducible refine w_if ?_ | with_reducible refine w_chain ?_ | with_reducible refine w_zip ?_ | with_reducible refine w_enum ?_ | with_reducible refine wg_add ?_ | with_reducible refine wg_sub ?_ | with_reducible refine wg_neg ?_ | with_reducible refine wg_lt ?_ | with_reducible refine wg_le ?_ | with_reducible refine wg_gt ?_ | with_reducible refine wg_ge ?_ | with_reducible refine wg_not ?_ | with_reducible refine wg_lenL ?_ | with_reducible refine wg_lenT ?_ | with_reducible refine wg_lenC ?_ | with_reducible refine wg_int ?_ | with_reducible refine wg_intB ?_ | with_reducible refine wg_abs ?_ | with_reducible refine wg_max2 ?_ | with_reducible refine wg_min2 ?_ | with_reducible refine wg_reprB ?_ | with_reducible refine wg_itL ?_ | with_reducible refine wg_itT ?_ | with_reducible refine wg_itC ?_ | with_reducible refine wg_itS ?_ | with_reducible refine wg_slL ?_ | with_reducible refine wg_slT ?_ | with_reducible refine wg_tupleL ?_ | with_reducible refine wg_tupleT ?_ | with_reducible refine wg_listL ?_ | with_reducible refine wg_listT ?_ | with_reducible refine wg_revL ?_ | with_reducible refine wg_revT ?_ | with_reducible refine wg_zipT ?_ | with_reducible refine wg_allM ?_ | with_reducible refine wg_anyM ?_ | with_reducible refine w_var (by with_unfolding_all rfl) ?_ | with_reducible refine wg_mul (Or.inr (by decide)) ?_ | with_reducible refine wg_mul (Or.inl (by decide)) ?_ | with_reducible refine wg_mod (by decide +kernel) ?_ | with_reducible refine wg_fdiv (by decide) ?_ | with_reducible refine wg_pow (by decide +kernel) ?_ | with_reducible refine wg_tup (by simp; done) ?_ | with_reducible refine wg_lst (by simp; done) ?_ | with_reducible refine w_dieSet (by decide) ?_ | with_reducible refine w_dieAt (by decide) (fun _ => ?_) | refine ⟨_, rfl, ?_⟩ | refine ⟨rfl, ?_⟩))
  refine w_compF (fun d => topB (sortS L) (unD d)) id ?_
  (repeat (first | with_reducible refine ws_seq ?_ | with_reducible refine ws_asg ?_ | with_reducible refine ws_ret ?_ | with_reducible refine ws_if ?_ | with_reducible refine ws_next ?_ | with_reducible refine ws_retN ?_ | with_reducible refine ws_brk ?_ | with_reducible refine ws_cont ?_ | with_reducible refine ws_drop ?_ | with_reducible refine ws_setI ?_ | with_reducible refine ws_for ?_ | with_reducible refine ws_par ?_ | with_reducible refine ws_frz ?_ | with_reducible refine ws_parO ?_ | with_reducible refine ws_setOwn ?_ | with_reducible refine ⟨fun _ => ?_, fun z => absurd rfl z⟩ | refine And.intro rt_nx fun _ => ?_ | refine And.intro bk_nx fun _ => ?_ | refine And.intro ct_nx fun _ => ?_ | with_reducible refine w_c2 ?_ | with_reducible refine w_c1 ?_ | with_reducible refine w_cA ?_ | with_reducible refine w_cons ?_ | with_reducible refine w_nil ?_ | with_reducible refine w_c ?_ | with_reducible refine w_call ?_ | with_reducible refine w_it ?_ | with_reducible refine w_rng1 ?_ | with_reducible refine w_rng2 ?_ | with_reducible refine w_m0 ?_ | with_reducible refine w_m1 ?_ | with_reducible refine w_sl ?_ | with_reducible refine w_part ?_ | with_reducible refine w_noP ?_ | with_reducible refine w_b ?_ | with_reducible refine w_notB ?_ | with_reducible refine w_if ?_ | with_reducible refine w_chain ?_ | with_reducible refine w_zip ?_ | with_reducible refine w_enum ?_ | with_reducible refine wg_add ?_ | with_reducible refine wg_sub ?_ | with_reducible refine wg_neg ?_ | with_reducible refine wg_lt ?_ | with_reducible refine wg_le ?_ | with_reducible refine wg_gt ?_ | with_reducible refine wg_ge ?_ | with_reducible refine wg_not ?_ | with_reducible refine wg_lenL ?_ | with_reducible refine wg_lenT ?_ | with_reducible refine wg_lenC ?_ | with_reducible refine wg_int ?_ | with_reducible refine wg_intB ?_ | with_reducible refine wg_abs ?_ | with_reducible refine wg_max2 ?_ | with_reducible refine wg_min2 ?_ | with_reducible refine wg_reprB ?_ | with_reducible refine wg_itL ?_ | with_reducible refine wg_itT ?_ | with_reducible refine wg_itC ?_ | with_reducible refine wg_itS ?_ | with_reducible refine wg_slL ?_ | with_reducible refine wg_slT ?_ | with_reducible refine wg_tupleL ?_ | with_reducible refine wg_tupleT ?_ | with_reducible refine wg_listL ?_ | with_reducible refine wg_listT ?_ | with_reducible refine wg_revL ?_ | with_reducible refine wg_revT ?_ | with_reducible refine wg_zipT ?_ | with_reducible refine wg_allM ?_ | with_reducible refine wg_anyM ?_ | with_reducible refine w_var (by with_unfolding_all rfl) ?_ | with_reducible refine wg_mul (Or.inr (by decide)) ?_ | with_reducible refine wg_mul (Or.inl (by decide)) ?_ | with_reducible refine wg_mod (by decide +kernel) ?_ | with_reducible refine wg_fdiv (by decide) ?_ | with_reducible refine wg_pow (by decide +kernel) ?_ | with_reducible refine wg_tup (by simp; done) ?_ | with_reducible refine wg_lst (by simp; done) ?_ | with_reducible refine w_dieSet (by decide) ?_ | with_reducible refine w_dieAt (by decide) (fun _ => ?_) | refine ⟨_, rfl, ?_⟩ | refine ⟨rfl, ?_⟩))
  refine ⟨by omega, fun d hd => ⟨_, rfl, ?_⟩, ?_⟩
  · obtain ⟨x, rfl, hx⟩ := tups_mem hd
    (repeat (first | with_reducible refine ws_seq ?_ | with_reducible refine ws_asg ?_ | with_reducible refine ws_ret ?_ | with_reducible refine ws_if ?_ | with_reducible refine ws_next ?_ | with_reducible refine ws_retN ?_ | with_reducible refine ws_brk ?_ | with_reducible refine ws_cont ?_ | with_reducible refine ws_drop ?_ | with_reducible refine ws_setI ?_ | with_reducible refine ws_for ?_ | with_reducible refine ws_par ?_ | with_reducible refine ws_frz ?_ | with_reducible refine ws_parO ?_ | with_reducible refine ws_setOwn ?_ | with_reducible refine ⟨fun _ => ?_, fun z => absurd rfl z⟩ | refine And.intro rt_nx fun _ => ?_ | refine And.intro bk_nx fun _ => ?_ | refine And.intro ct_nx fun _ => ?_ | with_reducible refine w_c2 ?_ | with_reducible refine w_c1 ?_ | with_reducible refine w_cA ?_ | with_reducible refine w_cons ?_ | with_reducible refine w_nil ?_ | with_reducible refine w_c ?_ | with_reducible refine w_call ?_ | with_reducible refine w_it ?_ | with_reducible refine w_rng1 ?_ | with_reducible refine w_rng2 ?_ | with_reducible refine w_m0 ?_ | with_reducible refine w_m1 ?_ | with_reducible refine w_sl ?_ | with_reducible refine w_part ?_ | with_reducible refine w_noP ?_ | with_reducible refine w_b ?_ | with_reducible refine w_notB ?_ | with_reducible refine w_if ?_ | with_reducible refine w_chain ?_ | with_reducible refine w_zip ?_ | with_reducible refine w_enum ?_ | with_reducible refine wg_add ?_ | with_reducible refine wg_sub ?_ | with_reducible refine wg_neg ?_ | with_reducible refine wg_lt ?_ | with_reducible refine wg_le ?_ | with_reducible refine wg_gt ?_ | with_reducible refine wg_ge ?_ | with_reducible refine wg_not ?_ | with_reducible refine wg_lenL ?_ | with_reducible refine wg_lenT ?_ | with_reducible refine wg_lenC ?_ | with_reducible refine wg_int ?_ | with_reducible refine wg_intB ?_ | with_reducible refine wg_abs ?_ | with_reducible refine wg_max2 ?_ | with_reducible refine wg_min2 ?_ | with_reducible refine wg_reprB ?_ | with_reducible refine wg_itL ?_ | with_reducible refine wg_itT ?_ | with_reducible refine wg_itC ?_ | with_reducible refine wg_itS ?_ | with_reducible refine wg_slL ?_ | with_reducible refine wg_slT ?_ | with_reducible refine wg_tupleL ?_ | with_reducible refine wg_tupleT ?_ | with_reducible refine wg_listL ?_ | with_reducible refine wg_listT ?_ | with_reducible refine wg_revL ?_ | with_reducible refine wg_revT ?_ | with_reducible refine wg_zipT ?_ | with_reducible refine wg_allM ?_ | with_reducible refine wg_anyM ?_ | with_reducible refine w_var (by with_unfolding_all rfl) ?_ | with_reducible refine wg_mul (Or.inr (by decide)) ?_ | with_reducible refine wg_mul (Or.inl (by decide)) ?_ | with_reducible refine wg_mod (by decide +kernel) ?_ | with_reducible refine wg_fdiv (by decide) ?_ | with_reducible refine wg_pow (by decide +kernel) ?_ | with_reducible refine wg_tup (by simp; done) ?_ | with_reducible refine wg_lst (by simp; done) ?_ | with_reducible refine w_dieSet (by decide) ?_ | with_reducible refine w_dieAt (by decide) (fun _ => ?_) | refine ⟨_, rfl, ?_⟩ | refine ⟨rfl, ?_⟩))
    refine w_compM (fun d => .bl (!decide (x = unD d) && within x (unD d))) ?_
    (repeat (first | with_reducible refine ws_seq ?_ | with_reducible refine ws_asg ?_ | with_reducible refine ws_ret ?_ | with_reducible refine ws_if ?_ | with_reducible refine ws_next ?_ | with_reducible refine ws_retN ?_ | with_reducible refine ws_brk ?_ | with_reducible refine ws_cont ?_ | with_reducible refine ws_drop ?_ | with_reducible refine ws_setI ?_ | with_reducible refine ws_for ?_ | with_reducible refine ws_par ?_ | with_reducible refine ws_frz ?_ | with_reducible refine ws_parO ?_ | with_reducible refine ws_setOwn ?_ | with_reducible refine ⟨fun _ => ?_, fun z => absurd rfl z⟩ | refine And.intro rt_nx fun _ => ?_ | refine And.intro bk_nx fun _ => ?_ | refine And.intro ct_nx fun _ => ?_ | with_reducible refine w_c2 ?_ | with_reducible refine w_c1 ?_ | with_reducible refine w_cA ?_ | with_reducible refine w_cons ?_ | with_reducible refine w_nil ?_ | with_reducible refine w_c ?_ | with_reducible refine w_call ?_ | with_reducible refine w_it ?_ | with_reducible refine w_rng1 ?_ | with_reducible refine w_rng2 ?_ | with_reducible refine w_m0 ?_ | with_reducible refine w_m1 ?_ | with_reducible refine w_sl ?_ | with_reducible refine w_part ?_ | with_reducible refine w_noP ?_ | with_reducible refine w_b ?_ | with_reducible refine w_notB ?_ | with_reducible refine w_if ?_ | with_reducible refine w_chain ?_ | with_reducible refine w_zip ?_ | with_reducible refine w_enum ?_ | with_reducible refine wg_add ?_ | with_reducible refine wg_sub ?_ | with_reducible refine wg_neg ?_ | with_reducible refine wg_lt ?_ | with_reducible refine wg_le ?_ | with_reducible refine wg_gt ?_ | with_reducible refine wg_ge ?_ | with_reducible refine wg_not ?_ | with_reducible refine wg_lenL ?_ | with_reducible refine wg_lenT ?_ | with_reducible refine wg_lenC ?_ | with_reducible refine wg_int ?_ | with_reducible refine wg_intB ?_ | with_reducible refine wg_abs ?_ | with_reducible refine wg_max2 ?_ | with_reducible refine wg_min2 ?_ | with_reducible refine wg_reprB ?_ | with_reducible refine wg_itL ?_ | with_reducible refine wg_itT ?_ | with_reducible refine wg_itC ?_ | with_reducible refine wg_itS ?_ | with_reducible refine wg_slL ?_ | with_reducible refine wg_slT ?_ | with_reducible refine wg_tupleL ?_ | with_reducible refine wg_tupleT ?_ | with_reducible refine wg_listL ?_ | with_reducible refine wg_listT ?_ | with_reducible refine wg_revL ?_ | with_reducible refine wg_revT ?_ | with_reducible refine wg_zipT ?_ | with_reducible refine wg_allM ?_ | with_reducible refine wg_anyM ?_ | with_reducible refine w_var (by with_unfolding_all rfl) ?_ | with_reducible refine wg_mul (Or.inr (by decide)) ?_ | with_reducible refine wg_mul (Or.inl (by decide)) ?_ | with_reducible refine wg_mod (by decide +kernel) ?_ | with_reducible refine wg_fdiv (by decide) ?_ | with_reducible refine wg_pow (by decide +kernel) ?_ | with_reducible refine wg_tup (by simp; done) ?_ | with_reducible refine wg_lst (by simp; done) ?_ | with_reducible refine w_dieSet (by decide) ?_ | with_reducible refine w_dieAt (by decide) (fun _ => ?_) | refine ⟨_, rfl, ?_⟩ | refine ⟨rfl, ?_⟩))
    refine ⟨by omega, fun d hd => ⟨_, rfl, ?_⟩, ?_⟩
    · obtain ⟨y, rfl, hy⟩ := tups_mem hd
      refine w_andV ?_
      (repeat (first | with_reducible refine ws_seq ?_ | with_reducible refine ws_asg ?_ | with_reducible refine ws_ret ?_ | with_reducible refine ws_if ?_ | with_reducible refine ws_next ?_ | with_reducible refine ws_retN ?_ | with_reducible refine ws_brk ?_ | with_reducible refine ws_cont ?_ | with_reducible refine ws_drop ?_ | with_reducible refine ws_setI ?_ | with_reducible refine ws_for ?_ | with_reducible refine ws_par ?_ | with_reducible refine ws_frz ?_ | with_reducible refine ws_parO ?_ | with_reducible refine ws_setOwn ?_ | with_reducible refine ⟨fun _ => ?_, fun z => absurd rfl z⟩ | refine And.intro rt_nx fun _ => ?_ | refine And.intro bk_nx fun _ => ?_ | refine And.intro ct_nx fun _ => ?_ | with_reducible refine w_c2 ?_ | with_reducible refine w_c1 ?_ | with_reducible refine w_cA ?_ | with_reducible refine w_cons ?_ | with_reducible refine w_nil ?_ | with_reducible refine w_c ?_ | with_reducible refine w_call ?_ | with_reducible refine w_it ?_ | with_reducible refine w_rng1 ?_ | with_reducible refine w_rng2 ?_ | with_reducible refine w_m0 ?_ | with_reducible refine w_m1 ?_ | with_reducible refine w_sl ?_ | with_reducible refine w_part ?_ | with_reducible refine w_noP ?_ | with_reducible refine w_b ?_ | with_reducible refine w_notB ?_ | with_reducible refine w_if ?_ | with_reducible refine w_chain ?_ | with_reducible refine w_zip ?_ | with_reducible refine w_enum ?_ | with_reducible refine wg_add ?_ | with_reducible refine wg_sub ?_ | with_reducible refine wg_neg ?_ | with_reducible refine wg_lt ?_ | with_reducible refine wg_le ?_ | with_reducible refine wg_gt ?_ | with_reducible refine wg_ge ?_ | with_reducible refine wg_not ?_ | with_reducible refine wg_lenL ?_ | with_reducible refine wg_lenT ?_ | with_reducible refine wg_lenC ?_ | with_reducible refine wg_int ?_ | with_reducible refine wg_intB ?_ | with_reducible refine wg_abs ?_ | with_reducible refine wg_max2 ?_ | with_reducible refine wg_min2 ?_ | with_reducible refine wg_reprB ?_ | with_reducible refine wg_itL ?_ | with_reducible refine wg_itT ?_ | with_reducible refine wg_itC ?_ | with_reducible refine wg_itS ?_ | with_reducible refine wg_slL ?_ | with_reducible refine wg_slT ?_ | with_reducible refine wg_tupleL ?_ | with_reducible refine wg_tupleT ?_ | with_reducible refine wg_listL ?_ | with_reducible refine wg_listT ?_ | with_reducible refine wg_revL ?_ | with_reducible refine wg_revT ?_ | with_reducible refine wg_zipT ?_ | with_reducible refine wg_allM ?_ | with_reducible refine wg_anyM ?_ | with_reducible refine w_var (by with_unfolding_all rfl) ?_ | with_reducible refine wg_mul (Or.inr (by decide)) ?_ | with_reducible refine wg_mul (Or.inl (by decide)) ?_ | with_reducible refine wg_mod (by decide +kernel) ?_ | with_reducible refine wg_fdiv (by decide) ?_ | with_reducible refine wg_pow (by decide +kernel) ?_ | with_reducible refine wg_tup (by simp; done) ?_ | with_reducible refine wg_lst (by simp; done) ?_ | with_reducible refine w_dieSet (by decide) ?_ | with_reducible refine w_dieAt (by decide) (fun _ => ?_) | refine ⟨_, rfl, ?_⟩ | refine ⟨rfl, ?_⟩))
      refine wg_ne (eqD_bag _ _) ⟨_, rfl, fun h => ?_, fun h => ?_⟩
      · (repeat (first | with_reducible refine ws_seq ?_ | with_reducible refine ws_asg ?_ | with_reducible refine ws_ret ?_ | with_reducible refine ws_if ?_ | with_reducible refine ws_next ?_ | with_reducible refine ws_retN ?_ | with_reducible refine ws_brk ?_ | with_reducible refine ws_cont ?_ | with_reducible refine ws_drop ?_ | with_reducible refine ws_setI ?_ | with_reducible refine ws_for ?_ | with_reducible refine ws_par ?_ | with_reducible refine ws_frz ?_ | with_reducible refine ws_parO ?_ | with_reducible refine ws_setOwn ?_ | with_reducible refine ⟨fun _ => ?_, fun z => absurd rfl z⟩ | refine And.intro rt_nx fun _ => ?_ | refine And.intro bk_nx fun _ => ?_ | refine And.intro ct_nx fun _ => ?_ | with_reducible refine w_c2 ?_ | with_reducible refine w_c1 ?_ | with_reducible refine w_cA ?_ | with_reducible refine w_cons ?_ | with_reducible refine w_nil ?_ | with_reducible refine w_c ?_ | with_reducible refine w_call ?_ | with_reducible refine w_it ?_ | with_reducible refine w_rng1 ?_ | with_reducible refine w_rng2 ?_ | with_reducible refine w_m0 ?_ | with_reducible refine w_m1 ?_ | with_reducible refine w_sl ?_ | with_reducible refine w_part ?_ | with_reducible refine w_noP ?_ | with_reducible refine w_b ?_ | with_reducible refine w_notB ?_ | with_reducible refine w_if ?_ | with_reducible refine w_chain ?_ | with_reducible refine w_zip ?_ | with_reducible refine w_enum ?_ | with_reducible refine wg_add ?_ | with_reducible refine wg_sub ?_ | with_reducible refine wg_neg ?_ | with_reducible refine wg_lt ?_ | with_reducible refine wg_le ?_ | with_reducible refine wg_gt ?_ | with_reducible refine wg_ge ?_ | with_reducible refine wg_not ?_ | with_reducible refine wg_lenL ?_ | with_reducible refine wg_lenT ?_ | with_reducible refine wg_lenC ?_ | with_reducible refine wg_int ?_ | with_reducible refine wg_intB ?_ | with_reducible refine wg_abs ?_ | with_reducible refine wg_max2 ?_ | with_reducible refine wg_min2 ?_ | with_reducible refine wg_reprB ?_ | with_reducible refine wg_itL ?_ | with_reducible refine wg_itT ?_ | with_reducible refine wg_itC ?_ | with_reducible refine wg_itS ?_ | with_reducible refine wg_slL ?_ | with_reducible refine wg_slT ?_ | with_reducible refine wg_tupleL ?_ | with_reducible refine wg_tupleT ?_ | with_reducible refine wg_listL ?_ | with_reducible refine wg_listT ?_ | with_reducible refine wg_revL ?_ | with_reducible refine wg_revT ?_ | with_reducible refine wg_zipT ?_ | with_reducible refine wg_allM ?_ | with_reducible refine wg_anyM ?_ | with_reducible refine w_var (by with_unfolding_all rfl) ?_ | with_reducible refine wg_mul (Or.inr (by decide)) ?_ | with_reducible refine wg_mul (Or.inl (by decide)) ?_ | with_reducible refine wg_mod (by decide +kernel) ?_ | with_reducible refine wg_fdiv (by decide) ?_ | with_reducible refine wg_pow (by decide +kernel) ?_ | with_reducible refine wg_tup (by simp; done) ?_ | with_reducible refine wg_lst (by simp; done) ?_ | with_reducible refine w_dieSet (by decide) ?_ | with_reducible refine w_dieAt (by decide) (fun _ => ?_) | refine ⟨_, rfl, ?_⟩ | refine ⟨rfl, ?_⟩))
        refine (w_plain (by have := bs.len x hx; have := b.five; omega)).imp (fun r hr => ?_) fun _ _ x => x
        rw [hr, unD_bag, h, Bool.true_and]
      · rw [unD_bag, h, Bool.false_and]
    · (repeat (first | with_reducible refine ws_seq ?_ | with_reducible refine ws_asg ?_ | with_reducible refine ws_ret ?_ | with_reducible refine ws_if ?_ | with_reducible refine ws_next ?_ | with_reducible refine ws_retN ?_ | with_reducible refine ws_brk ?_ | with_reducible refine ws_cont ?_ | with_reducible refine ws_drop ?_ | with_reducible refine ws_setI ?_ | with_reducible refine ws_for ?_ | with_reducible refine ws_par ?_ | with_reducible refine ws_frz ?_ | with_reducible refine ws_parO ?_ | with_reducible refine ws_setOwn ?_ | with_reducible refine ⟨fun _ => ?_, fun z => absurd rfl z⟩ | refine And.intro rt_nx fun _ => ?_ | refine And.intro bk_nx fun _ => ?_ | refine And.intro ct_nx fun _ => ?_ | with_reducible refine w_c2 ?_ | with_reducible refine w_c1 ?_ | with_reducible refine w_cA ?_ | with_reducible refine w_cons ?_ | with_reducible refine w_nil ?_ | with_reducible refine w_c ?_ | with_reducible refine w_call ?_ | with_reducible refine w_it ?_ | with_reducible refine w_rng1 ?_ | with_reducible refine w_rng2 ?_ | with_reducible refine w_m0 ?_ | with_reducible refine w_m1 ?_ | with_reducible refine w_sl ?_ | with_reducible refine w_part ?_ | with_reducible refine w_noP ?_ | with_reducible refine w_b ?_ | with_reducible refine w_notB ?_ | with_reducible refine w_if ?_ | with_reducible refine w_chain ?_ | with_reducible refine w_zip ?_ | with_reducible refine w_enum ?_ | with_reducible refine wg_add ?_ | with_reducible refine wg_sub ?_ | with_reducible refine wg_neg ?_ | with_reducible refine wg_lt ?_ | with_reducible refine wg_le ?_ | with_reducible refine wg_gt ?_ | with_reducible refine wg_ge ?_ | with_reducible refine wg_not ?_ | with_reducible refine wg_lenL ?_ | with_reducible refine wg_lenT ?_ | with_reducible refine wg_lenC ?_ | with_reducible refine wg_int ?_ | with_reducible refine wg_intB ?_ | with_reducible refine wg_abs ?_ | with_reducible refine wg_max2 ?_ | with_reducible refine wg_min2 ?_ | with_reducible refine wg_reprB ?_ | with_reducible refine wg_itL ?_ | with_reducible refine wg_itT ?_ | with_reducible refine wg_itC ?_ | with_reducible refine wg_itS ?_ | with_reducible refine wg_slL ?_ | with_reducible refine wg_slT ?_ | with_reducible refine wg_tupleL ?_ | with_reducible refine wg_tupleT ?_ | with_reducible refine wg_listL ?_ | with_reducible refine wg_listT ?_ | with_reducible refine wg_revL ?_ | with_reducible refine wg_revT ?_ | with_reducible refine wg_zipT ?_ | with_reducible refine wg_allM ?_ | with_reducible refine wg_anyM ?_ | with_reducible refine w_var (by with_unfolding_all rfl) ?_ | with_reducible refine wg_mul (Or.inr (by decide)) ?_ | with_reducible refine wg_mul (Or.inl (by decide)) ?_ | with_reducible refine wg_mod (by decide +kernel) ?_ | with_reducible refine wg_fdiv (by decide) ?_ | with_reducible refine wg_pow (by decide +kernel) ?_ | with_reducible refine wg_tup (by simp; done) ?_ | with_reducible refine wg_lst (by simp; done) ?_ | with_reducible refine w_dieSet (by decide) ?_ | with_reducible refine w_dieAt (by decide) (fun _ => ?_) | refine ⟨_, rfl, ?_⟩ | refine ⟨rfl, ?_⟩))
      refine ⟨?_, fun _ => w_var rfl rfl⟩
      rw [unD_bag, tups_any (fun y => !decide (x = y) && within x y)]
      rfl
  · (repeat (first | with_reducible refine ws_seq ?_ | with_reducible refine ws_asg ?_ | with_reducible refine ws_ret ?_ | with_reducible refine ws_if ?_ | with_reducible refine ws_next ?_ | with_reducible refine ws_retN ?_ | with_reducible refine ws_brk ?_ | with_reducible refine ws_cont ?_ | with_reducible refine ws_drop ?_ | with_reducible refine ws_setI ?_ | with_reducible refine ws_for ?_ | with_reducible refine ws_par ?_ | with_reducible refine ws_frz ?_ | with_reducible refine ws_parO ?_ | with_reducible refine ws_setOwn ?_ | with_reducible refine ⟨fun _ => ?_, fun z => absurd rfl z⟩ | refine And.intro rt_nx fun _ => ?_ | refine And.intro bk_nx fun _ => ?_ | refine And.intro ct_nx fun _ => ?_ | with_reducible refine w_c2 ?_ | with_reducible refine w_c1 ?_ | with_reducible refine w_cA ?_ | with_reducible refine w_cons ?_ | with_reducible refine w_nil ?_ | with_reducible refine w_c ?_ | with_reducible refine w_call ?_ | with_reducible refine w_it ?_ | with_reducible refine w_rng1 ?_ | with_reducible refine w_rng2 ?_ | with_reducible refine w_m0 ?_ | with_reducible refine w_m1 ?_ | with_reducible refine w_sl ?_ | with_reducible refine w_part ?_ | with_reducible refine w_noP ?_ | with_reducible refine w_b ?_ | with_reducible refine w_notB ?_ | with_reducible refine w_if ?_ | with_reducible refine w_chain ?_ | with_reducible refine w_zip ?_ | with_reducible refine w_enum ?_ | with_reducible refine wg_add ?_ | with_reducible refine wg_sub ?_ | with_reducible refine wg_neg ?_ | with_reducible refine wg_lt ?_ | with_reducible refine wg_le ?_ | with_reducible refine wg_gt ?_ | with_reducible refine wg_ge ?_ | with_reducible refine wg_not ?_ | with_reducible refine wg_lenL ?_ | with_reducible refine wg_lenT ?_ | with_reducible refine wg_lenC ?_ | with_reducible refine wg_int ?_ | with_reducible refine wg_intB ?_ | with_reducible refine wg_abs ?_ | with_reducible refine wg_max2 ?_ | with_reducible refine wg_min2 ?_ | with_reducible refine wg_reprB ?_ | with_reducible refine wg_itL ?_ | with_reducible refine wg_itT ?_ | with_reducible refine wg_itC ?_ | with_reducible refine wg_itS ?_ | with_reducible refine wg_slL ?_ | with_reducible refine wg_slT ?_ | with_reducible refine wg_tupleL ?_ | with_reducible refine wg_tupleT ?_ | with_reducible refine wg_listL ?_ | with_reducible refine wg_listT ?_ | with_reducible refine wg_revL ?_ | with_reducible refine wg_revT ?_ | with_reducible refine wg_zipT ?_ | with_reducible refine wg_allM ?_ | with_reducible refine wg_anyM ?_ | with_reducible refine w_var (by with_unfolding_all rfl) ?_ | with_reducible refine wg_mul (Or.inr (by decide)) ?_ | with_reducible refine wg_mul (Or.inl (by decide)) ?_ | with_reducible refine wg_mod (by decide +kernel) ?_ | with_reducible refine wg_fdiv (by decide) ?_ | with_reducible refine wg_pow (by decide +kernel) ?_ | with_reducible refine wg_tup (by simp; done) ?_ | with_reducible refine wg_lst (by simp; done) ?_ | with_reducible refine w_dieSet (by decide) ?_ | with_reducible refine w_dieAt (by decide) (fun _ => ?_) | refine ⟨_, rfl, ?_⟩ | refine ⟨rfl, ?_⟩))
    rw [List.map_id, tups_filter]
    rfl
theorem w_least_of {n : Nat} {L : List (List Int)} (b : Bags n L) : Wp I (F_least_of [.lst (tupsI L)]) (fun r => r = .tup (tupsI (lowG L))) X := by
  have bs := b.sort
  have few := bs.few
  have len := tups_len (sortS L)
  refine w_def rfl ?_
  unfold b_least_of
  (repeat (first | with_reducible refine ws_seq ?_ | with_reducible refine ws_asg ?_ | with_reducible refine ws_ret ?_ | with_reducible refine ws_if ?_ | with_reducible refine ws_next ?_ | with_reducible refine ws_retN ?_ | with_reducible refine ws_brk ?_ | with_reducible refine ws_cont ?_ | with_reducible refine ws_drop ?_ | with_reducible refine ws_setI ?_ | with_reducible refine ws_for ?_ | with_reducible refine ws_par ?_ | with_reducible refine ws_frz ?_ | with_reducible refine ws_parO ?_ | with_reducible refine ws_setOwn ?_ | with_reducible refine ⟨fun _ => ?_, fun z => absurd rfl z⟩ | refine And.intro rt_nx fun _ => ?_ | refine And.intro bk_nx fun _ => ?_ | refine And.intro ct_nx fun _ => ?_ | with_reducible refine w_c2 ?_ | with_reducible refine w_c1 ?_ | with_reducible refine w_cA ?_ | with_reducible refine w_cons ?_ | with_reducible refine w_nil ?_ | with_reducible refine w_c ?_ | with_reducible refine w_call ?_ | with_reducible refine w_it ?_ | with_reducible refine w_rng1 ?_ | with_reducible refine w_rng2 ?_ | with_reducible refine w_m0 ?_ | with_reducible refine w_m1 ?_ | with_reducible refine w_sl ?_ | with_reducible refine w_part ?_ | with_reducible refine w_noP ?_ | with_reducible refine w_b ?_ | with_reducible refine w_notB ?_ | with_reducible refine w_if ?_ | with_reducible refine w_chain ?_ | with_reducible refine w_zip ?_ | with_reducible refine w_enum ?_ | with_reducible refine wg_add ?_ | with_reducible refine wg_sub ?_ | with_reducible refine wg_neg ?_ | with_reducible refine wg_lt ?_ | with_reducible refine wg_le ?_ | with_reducible refine wg_gt ?_ | with_reducible refine wg_ge ?_ | with_reducible refine wg_not ?_ | with_reducible refine wg_lenL ?_ | with_reducible refine wg_lenT ?_ | with_reducible refine wg_lenC ?_ | with_reducible refine wg_int ?_ | with_reducible refine wg_intB ?_ | with_reducible refine wg_abs ?_ | with_reducible refine wg_max2 ?_ | with_reducible refine wg_min2 ?_ | with_reducible refine wg_reprB ?_ | with_reducible refine wg_itL ?_ | with_reducible refine wg_itT ?_ | with_reducible refine wg_itC ?_ | with_reducible refine wg_itS ?_ | with_reducible refine wg_slL ?_ | with_reducible refine wg_slT ?_ | with_reducible refine wg_tupleL ?_ | with_reducible refine wg_tupleT ?_ | with_reducible refine wg_listL ?_ | with_reducible refine wg_listT ?_ | with_reducible refine wg_revL ?_ | with_reducible refine wg_revT ?_ | with_reducible refine wg_zipT ?_ | with_reducible refine wg_allM ?_ | with_reducible refine wg_anyM ?_ | with_reducible refine w_var (by with_unfolding_all rfl) ?_ | with_reducible refine wg_mul (Or.inr (by decide)) ?_ | with_reducible refine wg_mul (Or.inl (by decide)) ?_ | with_reducible refine wg_mod (by decide +kernel) ?_ | with_reducible refine wg_fdiv (by decide) ?_ | with_reducible refine wg_pow (by decide +kernel) ?_ | with_reducible refine wg_tup (by simp; done) ?_ | with_reducible refine wg_lst (by simp; done) ?_ | with_reducible refine w_dieSet (by decide) ?_ | with_reducible refine w_dieAt (by decide) (fun _ => ?_) | refine ⟨_, rfl, ?_⟩ | refine ⟨rfl, ?_⟩))
  refine wg_sortS b ?_
  (repeat (first | with_reducible refine ws_seq ?_ | with_reducible refine ws_asg ?_ | with_reducible refine ws_ret ?_ | with_reducible refine ws_if ?_ | with_reducible refine ws_next ?_ | with_reducible refine ws_retN ?_ | with_reducible refine ws_brk ?_ | with_reducible refine ws_cont ?_ | with_reducible refine ws_drop ?_ | with_reducible refine ws_setI ?_ | with_reducible refine ws_for ?_ | with_reducible refine ws_par ?_ | with_reducible refine ws_frz ?_ | with_reducible refine ws_parO ?_ | with_reducible refine ws_setOwn ?_ | with_reducible refine ⟨fun _ => ?_, fun z => absurd rfl z⟩ | refine And.intro rt_nx fun _ => ?_ | refine And.intro bk_nx fun _ => ?_ | refine And.intro ct_nx fun _ => ?_ | with_reducible refine w_c2 ?_ | with_reducible refine w_c1 ?_ | with_reducible refine w_cA ?_ | with_reducible refine w_cons ?_ | with_reducible refine w_nil ?_ | with_reducible refine w_c ?_ | with_reducible refine w_call ?_ | with_reducible refine w_it ?_ | with_reducible refine w_rng1 ?_ | with_reducible refine w_rng2 ?_ | with_reducible refine w_m0 ?_ | with_reducible refine w_m1 ?_ | with_reducible refine w_sl ?_ | with_reducible refine w_part ?_ | with_reducible refine w_noP ?_ | with_reducible refine w_b ?_ | with_reducible refine w_notB ?_ | with_reducible refine w_if ?_ | with_reducible refine w_chain ?_ | with_reducible refine w_zip ?_ | with_reducible refine w_enum ?_ | with_reducible refine wg_add ?_ | with_reducible refine wg_sub ?_ | with_reducible refine wg_neg ?_ | with_reducible refine wg_lt ?_ | with_reducible refine wg_le ?_ | with_reducible refine wg_gt ?_ | with_reducible refine wg_ge ?_ | with_reducible refine wg_not ?_ | with_reducible refine wg_lenL ?_ | with_reducible refine wg_lenT ?_ | with_reducible refine wg_lenC ?_ | with_reducible refine wg_int ?_ | with_reducible refine wg_intB ?_ | with_reducible refine wg_abs ?_ | with_reducible refine wg_max2 ?_ | with_reducible refine wg_min2 ?_ | with_reducible refine wg_reprB ?_ | with_reducible refine wg_itL ?_ | with_reducible refine wg_itT ?_ | with_reducible refine wg_itC ?_ | with_reducible refine wg_itS ?_ | with_reducible refine wg_slL ?_ | with_reducible refine wg_slT ?_ | with_reducible refine wg_tupleL ?_ | with_reducible refine wg_tupleT ?_ | with_reducible refine wg_listL ?_ | with_reducible refine wg_listT ?_ | with_reducible refine wg_revL ?_ | with_reducible refine wg_revT ?_ | with_reducible refine wg_zipT ?_ | with_reducible refine wg_allM ?_ | with_reducible refine wg_anyM ?_ | with_reducible refine w_var (by with_unfolding_all rfl) ?_ | with_reducible refine wg_mul (Or.inr (by decide)) ?_ | with_reducible refine wg_mul (Or.inl (by decide)) ?_ | with_reducible refine wg_mod (by decide +kernel) ?_ | with_reducible refine wg_fdiv (by decide) ?_ | with_reducible refine wg_pow (by decide +kernel) ?_ | with_reducible refine wg_tup (by simp; done) ?_ | with_reducible refine wg_lst (by simp; done) ?_ | with_reducible refine w_dieSet (by decide) ?_ | with_reducible refine w_dieAt (by decide) (fun _ => ?_) | refine ⟨_, rfl, ?_⟩ | refine ⟨rfl, ?_⟩))
  refine w_compF (fun d => lowB (sortS L) (unD d)) id ?_
  (repeat (first | with_reducible refine ws_seq ?_ | with_reducible refine ws_asg ?_ | with_reducible refine ws_ret ?_ | with_reducible refine ws_if ?_ | with_reducible refine ws_next ?_ | with_reducible refine ws_retN ?_ | with_reducible refine ws_brk ?_ | with_reducible refine ws_cont ?_ | with_reducible refine ws_drop ?_ | with_reducible refine ws_setI ?_ | with_reducible refine ws_for ?_ | with_reducible refine ws_par ?_ | with_reducible refine ws_frz ?_ | with_reducible refine ws_parO ?_ | with_reducible refine ws_setOwn ?_ | with_reducible refine ⟨fun _ => ?_, fun z => absurd rfl z⟩ | refine And.intro rt_nx fun _ => ?_ | refine And.intro bk_nx fun _ => ?_ | refine And.intro ct_nx fun _ => ?_ | with_reducible refine w_c2 ?_ | with_reducible refine w_c1 ?_ | with_reducible refine w_cA ?_ | with_reducible refine w_cons ?_ | with_reducible refine w_nil ?_ | with_reducible refine w_c ?_ | with_reducible refine w_call ?_ | with_reducible refine w_it ?_ | with_reducible refine w_rng1 ?_ | with_reducible refine w_rng2 ?_ | with_reducible refine w_m0 ?_ | with_reducible refine w_m1 ?_ | with_reducible refine w_sl ?_ | with_reducible refine w_part ?_ | with_reducible refine w_noP ?_ | with_reducible refine w_b ?_ | with_reducible refine w_notB ?_ | with_reducible refine w_if ?_ | with_reducible refine w_chain ?_ | with_reducible refine w_zip ?_ | with_reducible refine w_enum ?_ | with_reducible refine wg_add ?_ | with_reducible refine wg_sub ?_ | with_reducible refine wg_neg ?_ | with_reducible refine wg_lt ?_ | with_reducible refine wg_le ?_ | with_reducible refine wg_gt ?_ | with_reducible refine wg_ge ?_ | with_reducible refine wg_not ?_ | with_reducible refine wg_lenL ?_ | with_reducible refine wg_lenT ?_ | with_reducible refine wg_lenC ?_ | with_reducible refine wg_int ?_ | with_reducible refine wg_intB ?_ | with_reducible refine wg_abs ?_ | with_reducible refine wg_max2 ?_ | with_reducible refine wg_min2 ?_ | with_reducible refine wg_reprB ?_ | with_reducible refine wg_itL ?_ | with_reducible refine wg_itT ?_ | with_reducible refine wg_itC ?_ | with_reducible refine wg_itS ?_ | with_reducible refine wg_slL ?_ | with_reducible refine wg_slT ?_ | with_reducible refine wg_tupleL ?_ | with_reducible refine wg_tupleT ?_ | with_reducible refine wg_listL ?_ | with_reducible refine wg_listT ?_ | with_reducible refine wg_revL ?_ | with_reducible refine wg_revT ?_ | with_reducible refine wg_zipT ?_ | with_reducible refine wg_allM ?_ | with_reducible refine wg_anyM ?_ | with_reducible refine w_var (by with_unfolding_all rfl) ?_ | with_reducible refine wg_mul (Or.inr (by decide)) ?_ | with_reducible refine wg_mul (Or.inl (by decide)) ?_ | with_reducible refine wg_mod (by decide +kernel) ?_ | with_reducible refine wg_fdiv (by decide) ?_ | with_reducible refine wg_pow (by decide +kernel) ?_ | with_reducible refine wg_tup (by simp; done) ?_ | with_reducible refine wg_lst (by simp; done) ?_ | with_reducible refine w_dieSet (by decide) ?_ | with_reducible refine w_dieAt (by decide) (fun _ => ?_) | refine ⟨_, rfl, ?_⟩ | refine ⟨rfl, ?_⟩))
  refine ⟨by omega, fun d hd => ⟨_, rfl, ?_⟩, ?_⟩
  · obtain ⟨x, rfl, hx⟩ := tups_mem hd
    (repeat (first | with_reducible refine ws_seq ?_ | with_reducible refine ws_asg ?_ | with_reducible refine ws_ret ?_ | with_reducible refine ws_if ?_ | with_reducible refine ws_next ?_ | with_reducible refine ws_retN ?_ | with_reducible refine ws_brk ?_ | with_reducible refine ws_cont ?_ | with_reducible refine ws_drop ?_ | with_reducible refine ws_setI ?_ | with_reducible refine ws_for ?_ | with_reducible refine ws_par ?_ | with_reducible refine ws_frz ?_ | with_reducible refine ws_parO ?_ | with_reducible refine ws_setOwn ?_ | with_reducible refine ⟨fun _ => ?_, fun z => absurd rfl z⟩ | refine And.intro rt_nx fun _ => ?_ | refine And.intro bk_nx fun _ => ?_ | refine And.intro ct_nx fun _ => ?_ | with_reducible refine w_c2 ?_ | with_reducible refine w_c1 ?_ | with_reducible refine w_cA ?_ | with_reducible refine w_cons ?_ | with_reducible refine w_nil ?_ | with_reducible refine w_c ?_ | with_reducible refine w_call ?_ | with_reducible refine w_it ?_ | with_reducible refine w_rng1 ?_ | with_reducible refine w_rng2 ?_ | with_reducible refine w_m0 ?_ | with_reducible refine w_m1 ?_ | with_reducible refine w_sl ?_ | with_reducible refine w_part ?_ | with_reducible refine w_noP ?_ | with_reducible refine w_b ?_ | with_reducible refine w_notB ?_ | with_reducible refine w_if ?_ | with_reducible refine w_chain ?_ | with_reducible refine w_zip ?_ | with_reducible refine w_enum ?_ | with_reducible refine wg_add ?_ | with_reducible refine wg_sub ?_ | with_reducible refine wg_neg ?_ | with_reducible refine wg_lt ?_ | with_reducible refine wg_le ?_ | with_reducible refine wg_gt ?_ | with_reducible refine wg_ge ?_ | with_reducible refine wg_not ?_ | with_reducible refine wg_lenL ?_ | with_reducible refine wg_lenT ?_ | with_reducible refine wg_lenC ?_ | with_reducible refine wg_int ?_ | with_reducible refine wg_intB ?_ | with_reducible refine wg_abs ?_ | with_reducible refine wg_max2 ?_ | with_reducible refine wg_min2 ?_ | with_reducible refine wg_reprB ?_ | with_reducible refine wg_itL ?_ | with_reducible refine wg_itT ?_ | with_reducible refine wg_itC ?_ | with_reducible refine wg_itS ?_ | with_reducible refine wg_slL ?_ | with_reducible refine wg_slT ?_ | with_reducible refine wg_tupleL ?_ | with_reducible refine wg_tupleT ?_ | with_reducible refine wg_listL ?_ | with_reducible refine wg_listT ?_ | with_reducible refine wg_revL ?_ | with_reducible refine wg_revT ?_ | with_reducible refine wg_zipT ?_ | with_reducible refine wg_allM ?_ | with_reducible refine wg_anyM ?_ | with_reducible refine w_var (by with_unfolding_all rfl) ?_ | with_reducible refine wg_mul (Or.inr (by decide)) ?_ | with_reducible refine wg_mul (Or.inl (by decide)) ?_ | with_reducible refine wg_mod (by decide +kernel) ?_ | with_reducible refine wg_fdiv (by decide) ?_ | with_reducible refine wg_pow (by decide +kernel) ?_ | with_reducible refine wg_tup (by simp; done) ?_ | with_reducible refine wg_lst (by simp; done) ?_ | with_reducible refine w_dieSet (by decide) ?_ | with_reducible refine w_dieAt (by decide) (fun _ => ?_) | refine ⟨_, rfl, ?_⟩ | refine ⟨rfl, ?_⟩))
    refine w_compM (fun d => .bl (!decide (x = unD d) && within (unD d) x)) ?_
    (repeat (first | with_reducible refine ws_seq ?_ | with_reducible refine ws_asg ?_ | with_reducible refine ws_ret ?_ | with_reducible refine ws_if ?_ | with_reducible refine ws_next ?_ | with_reducible refine ws_retN ?_ | with_reducible refine ws_brk ?_ | with_reducible refine ws_cont ?_ | with_reducible refine ws_drop ?_ | with_reducible refine ws_setI ?_ | with_reducible refine ws_for ?_ | with_reducible refine ws_par ?_ | with_reducible refine ws_frz ?_ | with_reducible refine ws_parO ?_ | with_reducible refine ws_setOwn ?_ | with_reducible refine ⟨fun _ => ?_, fun z => absurd rfl z⟩ | refine And.intro rt_nx fun _ => ?_ | refine And.intro bk_nx fun _ => ?_ | refine And.intro ct_nx fun _ => ?_ | with_reducible refine w_c2 ?_ | with_reducible refine w_c1 ?_ | with_reducible refine w_cA ?_ | with_reducible refine w_cons ?_ | with_reducible refine w_nil ?_ | with_reducible refine w_c ?_ | with_reducible refine w_call ?_ | with_reducible refine w_it ?_ | with_reducible refine w_rng1 ?_ | with_reducible refine w_rng2 ?_ | with_reducible refine w_m0 ?_ | with_reducible refine w_m1 ?_ | with_reducible refine w_sl ?_ | with_reducible refine w_part ?_ | with_reducible refine w_noP ?_ | with_reducible refine w_b ?_ | with_reducible refine w_notB ?_ | with_reducible refine w_if ?_ | with_reducible refine w_chain ?_ | with_reducible refine w_zip ?_ | with_reducible refine w_enum ?_ | with_reducible refine wg_add ?_ | with_reducible refine wg_sub ?_ | with_reducible refine wg_neg ?_ | with_reducible refine wg_lt ?_ | with_reducible refine wg_le ?_ | with_reducible refine wg_gt ?_ | with_reducible refine wg_ge ?_ | with_reducible refine wg_not ?_ | with_reducible refine wg_lenL ?_ | with_reducible refine wg_lenT ?_ | with_reducible refine wg_lenC ?_ | with_reducible refine wg_int ?_ | with_reducible refine wg_intB ?_ | with_reducible refine wg_abs ?_ | with_reducible refine wg_max2 ?_ | with_reducible refine wg_min2 ?_ | with_reducible refine wg_reprB ?_ | with_reducible refine wg_itL ?_ | with_reducible refine wg_itT ?_ | with_reducible refine wg_itC ?_ | with_reducible refine wg_itS ?_ | with_reducible refine wg_slL ?_ | with_reducible refine wg_slT ?_ | with_reducible refine wg_tupleL ?_ | with_reducible refine wg_tupleT ?_ | with_reducible refine wg_listL ?_ | with_reducible refine wg_listT ?_ | with_reducible refine wg_revL ?_ | with_reducible refine wg_revT ?_ | with_reducible refine wg_zipT ?_ | with_reducible refine wg_allM ?_ | with_reducible refine wg_anyM ?_ | with_reducible refine w_var (by with_unfolding_all rfl) ?_ | with_reducible refine wg_mul (Or.inr (by decide)) ?_ | with_reducible refine wg_mul (Or.inl (by decide)) ?_ | with_reducible refine wg_mod (by decide +kernel) ?_ | with_reducible refine wg_fdiv (by decide) ?_ | with_reducible refine wg_pow (by decide +kernel) ?_ | with_reducible refine wg_tup (by simp; done) ?_ | with_reducible refine wg_lst (by simp; done) ?_ | with_reducible refine w_dieSet (by decide) ?_ | with_reducible refine w_dieAt (by decide) (fun _ => ?_) | refine ⟨_, rfl, ?_⟩ | refine ⟨rfl, ?_⟩))
    refine ⟨by omega, fun d hd => ⟨_, rfl, ?_⟩, ?_⟩
    · obtain ⟨y, rfl, hy⟩ := tups_mem hd
      refine w_andV ?_
      (repeat (first | with_reducible refine ws_seq ?_ | with_reducible refine ws_asg ?_ | with_reducible refine ws_ret ?_ | with_reducible refine ws_if ?_ | with_reducible refine ws_next ?_ | with_reducible refine ws_retN ?_ | with_reducible refine ws_brk ?_ | with_reducible refine ws_cont ?_ | with_reducible refine ws_drop ?_ | with_reducible refine ws_setI ?_ | with_reducible refine ws_for ?_ | with_reducible refine ws_par ?_ | with_reducible refine ws_frz ?_ | with_reducible refine ws_parO ?_ | with_reducible refine ws_setOwn ?_ | with_reducible refine ⟨fun _ => ?_, fun z => absurd rfl z⟩ | refine And.intro rt_nx fun _ => ?_ | refine And.intro bk_nx fun _ => ?_ | refine And.intro ct_nx fun _ => ?_ | with_reducible refine w_c2 ?_ | with_reducible refine w_c1 ?_ | with_reducible refine w_cA ?_ | with_reducible refine w_cons ?_ | with_reducible refine w_nil ?_ | with_reducible refine w_c ?_ | with_reducible refine w_call ?_ | with_reducible refine w_it ?_ | with_reducible refine w_rng1 ?_ | with_reducible refine w_rng2 ?_ | with_reducible refine w_m0 ?_ | with_reducible refine w_m1 ?_ | with_reducible refine w_sl ?_ | with_reducible refine w_part ?_ | with_reducible refine w_noP ?_ | with_reducible refine w_b ?_ | with_reducible refine w_notB ?_ | with_reducible refine w_if ?_ | with_reducible refine w_chain ?_ | with_reducible refine w_zip ?_ | with_reducible refine w_enum ?_ | with_reducible refine wg_add ?_ | with_reducible refine wg_sub ?_ | with_reducible refine wg_neg ?_ | with_reducible refine wg_lt ?_ | with_reducible refine wg_le ?_ | with_reducible refine wg_gt ?_ | with_reducible refine wg_ge ?_ | with_reducible refine wg_not ?_ | with_reducible refine wg_lenL ?_ | with_reducible refine wg_lenT ?_ | with_reducible refine wg_lenC ?_ | with_reducible refine wg_int ?_ | with_reducible refine wg_intB ?_ | with_reducible refine wg_abs ?_ | with_reducible refine wg_max2 ?_ | with_reducible refine wg_min2 ?_ | with_reducible refine wg_reprB ?_ | with_reducible refine wg_itL ?_ | with_reducible refine wg_itT ?_ | with_reducible refine wg_itC ?_ | with_reducible refine wg_itS ?_ | with_reducible refine wg_slL ?_ | with_reducible refine wg_slT ?_ | with_reducible refine wg_tupleL ?_ | with_reducible refine wg_tupleT ?_ | with_reducible refine wg_listL ?_ | with_reducible refine wg_listT ?_ | with_reducible refine wg_revL ?_ | with_reducible refine wg_revT ?_ | with_reducible refine wg_zipT ?_ | with_reducible refine wg_allM ?_ | with_reducible refine wg_anyM ?_ | with_reducible refine w_var (by with_unfolding_all rfl) ?_ | with_reducible refine wg_mul (Or.inr (by decide)) ?_ | with_reducible refine wg_mul (Or.inl (by decide)) ?_ | with_reducible refine wg_mod (by decide +kernel) ?_ | with_reducible refine wg_fdiv (by decide) ?_ | with_reducible refine wg_pow (by decide +kernel) ?_ | with_reducible refine wg_tup (by simp; done) ?_ | with_reducible refine wg_lst (by simp; done) ?_ | with_reducible refine w_dieSet (by decide) ?_ | with_reducible refine w_dieAt (by decide) (fun _ => ?_) | refine ⟨_, rfl, ?_⟩ | refine ⟨rfl, ?_⟩))
      refine wg_ne (eqD_bag _ _) ⟨_, rfl, fun h => ?_, fun h => ?_⟩
      · (repeat (first | with_reducible refine ws_seq ?_ | with_reducible refine ws_asg ?_ | with_reducible refine ws_ret ?_ | with_reducible refine ws_if ?_ | with_reducible refine ws_next ?_ | with_reducible refine ws_retN ?_ | with_reducible refine ws_brk ?_ | with_reducible refine ws_cont ?_ | with_reducible refine ws_drop ?_ | with_reducible refine ws_setI ?_ | with_reducible refine ws_for ?_ | with_reducible refine ws_par ?_ | with_reducible refine ws_frz ?_ | with_reducible refine ws_parO ?_ | with_reducible refine ws_setOwn ?_ | with_reducible refine ⟨fun _ => ?_, fun z => absurd rfl z⟩ | refine And.intro rt_nx fun _ => ?_ | refine And.intro bk_nx fun _ => ?_ | refine And.intro ct_nx fun _ => ?_ | with_reducible refine w_c2 ?_ | with_reducible refine w_c1 ?_ | with_reducible refine w_cA ?_ | with_reducible refine w_cons ?_ | with_reducible refine w_nil ?_ | with_reducible refine w_c ?_ | with_reducible refine w_call ?_ | with_reducible refine w_it ?_ | with_reducible refine w_rng1 ?_ | with_reducible refine w_rng2 ?_ | with_reducible refine w_m0 ?_ | with_reducible refine w_m1 ?_ | with_reducible refine w_sl ?_ | with_reducible refine w_part ?_ | with_reducible refine w_noP ?_ | with_reducible refine w_b ?_ | with_reducible refine w_notB ?_ | with_reducible refine w_if ?_ | with_reducible refine w_chain ?_ | with_reducible refine w_zip ?_ | with_reducible refine w_enum ?_ | with_reducible refine wg_add ?_ | with_reducible refine wg_sub ?_ | with_reducible refine wg_neg ?_ | with_reducible refine wg_lt ?_ | with_reducible refine wg_le ?_ | with_reducible refine wg_gt ?_ | with_reducible refine wg_ge ?_ | with_reducible refine wg_not ?_ | with_reducible refine wg_lenL ?_ | with_reducible refine wg_lenT ?_ | with_reducible refine wg_lenC ?_ | with_reducible refine wg_int ?_ | with_reducible refine wg_intB ?_ | with_reducible refine wg_abs ?_ | with_reducible refine wg_max2 ?_ | with_reducible refine wg_min2 ?_ | with_reducible refine wg_reprB ?_ | with_reducible refine wg_itL ?_ | with_reducible refine wg_itT ?_ | with_reducible refine wg_itC ?_ | with_reducible refine wg_itS ?_ | with_reducible refine wg_slL ?_ | with_reducible refine wg_slT ?_ | with_reducible refine wg_tupleL ?_ | with_reducible refine wg_tupleT ?_ | with_reducible refine wg_listL ?_ | with_reducible refine wg_listT ?_ | with_reducible refine wg_revL ?_ | with_reducible refine wg_revT ?_ | with_reducible refine wg_zipT ?_ | with_reducible refine wg_allM ?_ | with_reducible refine wg_anyM ?_ | with_reducible refine w_var (by with_unfolding_all rfl) ?_ | with_reducible refine wg_mul (Or.inr (by decide)) ?_ | with_reducible refine wg_mul (Or.inl (by decide)) ?_ | with_reducible refine wg_mod (by decide +kernel) ?_ | with_reducible refine wg_fdiv (by decide) ?_ | with_reducible refine wg_pow (by decide +kernel) ?_ | with_reducible refine wg_tup (by simp; done) ?_ | with_reducible refine wg_lst (by simp; done) ?_ | with_reducible refine w_dieSet (by decide) ?_ | with_reducible refine w_dieAt (by decide) (fun _ => ?_) | refine ⟨_, rfl, ?_⟩ | refine ⟨rfl, ?_⟩))
        refine (w_plain (by have := bs.len y hy; have := b.five; omega)).imp (fun r hr => ?_) fun _ _ x => x
        rw [hr, unD_bag, h, Bool.true_and]
      · rw [unD_bag, h, Bool.false_and]
    · (repeat (first | with_reducible refine ws_seq ?_ | with_reducible refine ws_asg ?_ | with_reducible refine ws_ret ?_ | with_reducible refine ws_if ?_ | with_reducible refine ws_next ?_ | with_reducible refine ws_retN ?_ | with_reducible refine ws_brk ?_ | with_reducible refine ws_cont ?_ | with_reducible refine ws_drop ?_ | with_reducible refine ws_setI ?_ | with_reducible refine ws_for ?_ | with_reducible refine ws_par ?_ | with_reducible refine ws_frz ?_ | with_reducible refine ws_parO ?_ | with_reducible refine ws_setOwn ?_ | with_reducible refine ⟨fun _ => ?_, fun z => absurd rfl z⟩ | refine And.intro rt_nx fun _ => ?_ | refine And.intro bk_nx fun _ => ?_ | refine And.intro ct_nx fun _ => ?_ | with_reducible refine w_c2 ?_ | with_reducible refine w_c1 ?_ | with_reducible refine w_cA ?_ | with_reducible refine w_cons ?_ | with_reducible refine w_nil ?_ | with_reducible refine w_c ?_ | with_reducible refine w_call ?_ | with_reducible refine w_it ?_ | with_reducible refine w_rng1 ?_ | with_reducible refine w_rng2 ?_ | with_reducible refine w_m0 ?_ | with_reducible refine w_m1 ?_ | with_reducible refine w_sl ?_ | with_reducible refine w_part ?_ | with_reducible refine w_noP ?_ | with_reducible refine w_b ?_ | with_reducible refine w_notB ?_ | with_reducible refine w_if ?_ | with_reducible refine w_chain ?_ | with_reducible refine w_zip ?_ | with_reducible refine w_enum ?_ | with_reducible refine wg_add ?_ | with_reducible refine wg_sub ?_ | with_reducible refine wg_neg ?_ | with_reducible refine wg_lt ?_ | with_reducible refine wg_le ?_ | with_reducible refine wg_gt ?_ | with_reducible refine wg_ge ?_ | with_reducible refine wg_not ?_ | with_reducible refine wg_lenL ?_ | with_reducible refine wg_lenT ?_ | with_reducible refine wg_lenC ?_ | with_reducible refine wg_int ?_ | with_reducible refine wg_intB ?_ | with_reducible refine wg_abs ?_ | with_reducible refine wg_max2 ?_ | with_reducible refine wg_min2 ?_ | with_reducible refine wg_reprB ?_ | with_reducible refine wg_itL ?_ | with_reducible refine wg_itT ?_ | with_reducible refine wg_itC ?_ | with_reducible refine wg_itS ?_ | with_reducible refine wg_slL ?_ | with_reducible refine wg_slT ?_ | with_reducible refine wg_tupleL ?_ | with_reducible refine wg_tupleT ?_ | with_reducible refine wg_listL ?_ | with_reducible refine wg_listT ?_ | with_reducible refine wg_revL ?_ | with_reducible refine wg_revT ?_ | with_reducible refine wg_zipT ?_ | with_reducible refine wg_allM ?_ | with_reducible refine wg_anyM ?_ | with_reducible refine w_var (by with_unfolding_all rfl) ?_ | with_reducible refine wg_mul (Or.inr (by decide)) ?_ | with_reducible refine wg_mul (Or.inl (by decide)) ?_ | with_reducible refine wg_mod (by decide +kernel) ?_ | with_reducible refine wg_fdiv (by decide) ?_ | with_reducible refine wg_pow (by decide +kernel) ?_ | with_reducible refine wg_tup (by simp; done) ?_ | with_reducible refine wg_lst (by simp; done) ?_ | with_reducible refine w_dieSet (by decide) ?_ | with_reducible refine w_dieAt (by decide) (fun _ => ?_) | refine ⟨_, rfl, ?_⟩ | refine ⟨rfl, ?_⟩))
      refine ⟨?_, fun _ => w_var rfl rfl⟩
      rw [unD_bag, tups_any (fun y => !decide (x = y) && within y x)]
      rfl
  · (repeat (first | with_reducible refine ws_seq ?_ | with_reducible refine ws_asg ?_ | with_reducible refine ws_ret ?_ | with_reducible refine ws_if ?_ | with_reducible refine ws_next ?_ | with_reducible refine ws_retN ?_ | with_reducible refine ws_brk ?_ | with_reducible refine ws_cont ?_ | with_reducible refine ws_drop ?_ | with_reducible refine ws_setI ?_ | with_reducible refine ws_for ?_ | with_reducible refine ws_par ?_ | with_reducible refine ws_frz ?_ | with_reducible refine ws_parO ?_ | with_reducible refine ws_setOwn ?_ | with_reducible refine ⟨fun _ => ?_, fun z => absurd rfl z⟩ | refine And.intro rt_nx fun _ => ?_ | refine And.intro bk_nx fun _ => ?_ | refine And.intro ct_nx fun _ => ?_ | with_reducible refine w_c2 ?_ | with_reducible refine w_c1 ?_ | with_reducible refine w_cA ?_ | with_reducible refine w_cons ?_ | with_reducible refine w_nil ?_ | with_reducible refine w_c ?_ | with_reducible refine w_call ?_ | with_reducible refine w_it ?_ | with_reducible refine w_rng1 ?_ | with_reducible refine w_rng2 ?_ | with_reducible refine w_m0 ?_ | with_reducible refine w_m1 ?_ | with_reducible refine w_sl ?_ | with_reducible refine w_part ?_ | with_reducible refine w_noP ?_ | with_reducible refine w_b ?_ | with_reducible refine w_notB ?_ | with_reducible refine w_if ?_ | with_reducible refine w_chain ?_ | with_reducible refine w_zip ?_ | with_reducible refine w_enum ?_ | with_reducible refine wg_add ?_ | with_reducible refine wg_sub ?_ | with_reducible refine wg_neg ?_ | with_reducible refine wg_lt ?_ | with_reducible refine wg_le ?_ | with_reducible refine wg_gt ?_ | with_reducible refine wg_ge ?_ | with_reducible refine wg_not ?_ | with_reducible refine wg_lenL ?_ | with_reducible refine wg_lenT ?_ | with_reducible refine wg_lenC ?_ | with_reducible refine wg_int ?_ | with_reducible refine wg_intB ?_ | with_reducible refine wg_abs ?_ | with_reducible refine wg_max2 ?_ | with_reducible refine wg_min2 ?_ | with_reducible refine wg_reprB ?_ | with_reducible refine wg_itL ?_ | with_reducible refine wg_itT ?_ | with_reducible refine wg_itC ?_ | with_reducible refine wg_itS ?_ | with_reducible refine wg_slL ?_ | with_reducible refine wg_slT ?_ | with_reducible refine wg_tupleL ?_ | with_reducible refine wg_tupleT ?_ | with_reducible refine wg_listL ?_ | with_reducible refine wg_listT ?_ | with_reducible refine wg_revL ?_ | with_reducible refine wg_revT ?_ | with_reducible refine wg_zipT ?_ | with_reducible refine wg_allM ?_ | with_reducible refine wg_anyM ?_ | with_reducible refine w_var (by with_unfolding_all rfl) ?_ | with_reducible refine wg_mul (Or.inr (by decide)) ?_ | with_reducible refine wg_mul (Or.inl (by decide)) ?_ | with_reducible refine wg_mod (by decide +kernel) ?_ | with_reducible refine wg_fdiv (by decide) ?_ | with_reducible refine wg_pow (by decide +kernel) ?_ | with_reducible refine wg_tup (by simp; done) ?_ | with_reducible refine wg_lst (by simp; done) ?_ | with_reducible refine w_dieSet (by decide) ?_ | with_reducible refine w_dieAt (by decide) (fun _ => ?_) | refine ⟨_, rfl, ?_⟩ | refine ⟨rfl, ?_⟩))
    rw [List.map_id, tups_filter]
    rfl
theorem w_greatest {n : Nat} {L : List (List Int)} (b : Bags n L) : Wp I (F_greatest [.tup (tupsI L)]) (fun r => r = .tup (tupsI (topG L))) X := by
  refine w_def rfl ?_
  unfold b_greatest
  (repeat (first | with_reducible refine ws_seq ?_ | with_reducible refine ws_asg ?_ | with_reducible refine ws_ret ?_ | with_reducible refine ws_if ?_ | with_reducible refine ws_next ?_ | with_reducible refine ws_retN ?_ | with_reducible refine ws_brk ?_ | with_reducible refine ws_cont ?_ | with_reducible refine ws_drop ?_ | with_reducible refine ws_setI ?_ | with_reducible refine ws_for ?_ | with_reducible refine ws_par ?_ | with_reducible refine ws_frz ?_ | with_reducible refine ws_parO ?_ | with_reducible refine ws_setOwn ?_ | with_reducible refine ⟨fun _ => ?_, fun z => absurd rfl z⟩ | refine And.intro rt_nx fun _ => ?_ | refine And.intro bk_nx fun _ => ?_ | refine And.intro ct_nx fun _ => ?_ | with_reducible refine w_c2 ?_ | with_reducible refine w_c1 ?_ | with_reducible refine w_cA ?_ | with_reducible refine w_cons ?_ | with_reducible refine w_nil ?_ | with_reducible refine w_c ?_ | with_reducible refine w_call ?_ | with_reducible refine w_it ?_ | with_reducible refine w_rng1 ?_ | with_reducible refine w_rng2 ?_ | with_reducible refine w_m0 ?_ | with_reducible refine w_m1 ?_ | with_reducible refine w_sl ?_ | with_reducible refine w_part ?_ | with_reducible refine w_noP ?_ | with_reducible refine w_b ?_ | with_reducible refine w_notB ?_ | with_reducible refine w_if ?_ | with_reducible refine w_chain ?_ | with_reducible refine w_zip ?_ | with_reducible refine w_enum ?_ | with_reducible refine wg_add ?_ | with_reducible refine wg_sub ?_ | with_reducible refine wg_neg ?_ | with_reducible refine wg_lt ?_ | with_reducible refine wg_le ?_ | with_reducible refine wg_gt ?_ | with_reducible refine wg_ge ?_ | with_reducible refine wg_not ?_ | with_reducible refine wg_lenL ?_ | with_reducible refine wg_lenT ?_ | with_reducible refine wg_lenC ?_ | with_reducible refine wg_int ?_ | with_reducible refine wg_intB ?_ | with_reducible refine wg_abs ?_ | with_reducible refine wg_max2 ?_ | with_reducible refine wg_min2 ?_ | with_reducible refine wg_reprB ?_ | with_reducible refine wg_itL ?_ | with_reducible refine wg_itT ?_ | with_reducible refine wg_itC ?_ | with_reducible refine wg_itS ?_ | with_reducible refine wg_slL ?_ | with_reducible refine wg_slT ?_ | with_reducible refine wg_tupleL ?_ | with_reducible refine wg_tupleT ?_ | with_reducible refine wg_listL ?_ | with_reducible refine wg_listT ?_ | with_reducible refine wg_revL ?_ | with_reducible refine wg_revT ?_ | with_reducible refine wg_zipT ?_ | with_reducible refine wg_allM ?_ | with_reducible refine wg_anyM ?_ | with_reducible refine w_var (by with_unfolding_all rfl) ?_ | with_reducible refine wg_mul (Or.inr (by decide)) ?_ | with_reducible refine wg_mul (Or.inl (by decide)) ?_ | with_reducible refine wg_mod (by decide +kernel) ?_ | with_reducible refine wg_fdiv (by decide) ?_ | with_reducible refine wg_pow (by decide +kernel) ?_ | with_reducible refine wg_tup (by simp; done) ?_ | with_reducible refine wg_lst (by simp; done) ?_ | with_reducible refine w_dieSet (by decide) ?_ | with_reducible refine w_dieAt (by decide) (fun _ => ?_) | refine ⟨_, rfl, ?_⟩ | refine ⟨rfl, ?_⟩))
  refine (w_bags b).imp (fun r _ => ?_) fun _ _ x => x
  (repeat (first | with_reducible refine ws_seq ?_ | with_reducible refine ws_asg ?_ | with_reducible refine ws_ret ?_ | with_reducible refine ws_if ?_ | with_reducible refine ws_next ?_ | with_reducible refine ws_retN ?_ | with_reducible refine ws_brk ?_ | with_reducible refine ws_cont ?_ | with_reducible refine ws_drop ?_ | with_reducible refine ws_setI ?_ | with_reducible refine ws_for ?_ | with_reducible refine ws_par ?_ | with_reducible refine ws_frz ?_ | with_reducible refine ws_parO ?_ | with_reducible refine ws_setOwn ?_ | with_reducible refine ⟨fun _ => ?_, fun z => absurd rfl z⟩ | refine And.intro rt_nx fun _ => ?_ | refine And.intro bk_nx fun _ => ?_ | refine And.intro ct_nx fun _ => ?_ | with_reducible refine w_c2 ?_ | with_reducible refine w_c1 ?_ | with_reducible refine w_cA ?_ | with_reducible refine w_cons ?_ | with_reducible refine w_nil ?_ | with_reducible refine w_c ?_ | with_reducible refine w_call ?_ | with_reducible refine w_it ?_ | with_reducible refine w_rng1 ?_ | with_reducible refine w_rng2 ?_ | with_reducible refine w_m0 ?_ | with_reducible refine w_m1 ?_ | with_reducible refine w_sl ?_ | with_reducible refine w_part ?_ | with_reducible refine w_noP ?_ | with_reducible refine w_b ?_ | with_reducible refine w_notB ?_ | with_reducible refine w_if ?_ | with_reducible refine w_chain ?_ | with_reducible refine w_zip ?_ | with_reducible refine w_enum ?_ | with_reducible refine wg_add ?_ | with_reducible refine wg_sub ?_ | with_reducible refine wg_neg ?_ | with_reducible refine wg_lt ?_ | with_reducible refine wg_le ?_ | with_reducible refine wg_gt ?_ | with_reducible refine wg_ge ?_ | with_reducible refine wg_not ?_ | with_reducible refine wg_lenL ?_ | with_reducible refine wg_lenT ?_ | with_reducible refine wg_lenC ?_ | with_reducible refine wg_int ?_ | with_reducible refine wg_intB ?_ | with_reducible refine wg_abs ?_ | with_reducible refine wg_max2 ?_ | with_reducible refine wg_min2 ?_ | with_reducible refine wg_reprB ?_ | with_reducible refine wg_itL ?_ | with_reducible refine wg_itT ?_ | with_reducible refine wg_itC ?_ | with_reducible refine wg_itS ?_ | with_reducible refine wg_slL ?_ | with_reducible refine wg_slT ?_ | with_reducible refine wg_tupleL ?_ | with_reducible refine wg_tupleT ?_ | with_reducible refine wg_listL ?_ | with_reducible refine wg_listT ?_ | with_reducible refine wg_revL ?_ | with_reducible refine wg_revT ?_ | with_reducible refine wg_zipT ?_ | with_reducible refine wg_allM ?_ | with_reducible refine wg_anyM ?_ | with_reducible refine w_var (by with_unfolding_all rfl) ?_ | with_reducible refine wg_mul (Or.inr (by decide)) ?_ | with_reducible refine wg_mul (Or.inl (by decide)) ?_ | with_reducible refine wg_mod (by decide +kernel) ?_ | with_reducible refine wg_fdiv (by decide) ?_ | with_reducible refine wg_pow (by decide +kernel) ?_ | with_reducible refine wg_tup (by simp; done) ?_ | with_reducible refine wg_lst (by simp; done) ?_ | with_reducible refine w_dieSet (by decide) ?_ | with_reducible refine w_dieAt (by decide) (fun _ => ?_) | refine ⟨_, rfl, ?_⟩ | refine ⟨rfl, ?_⟩))
  exact w_greatest_of b
theorem w_least {n : Nat} {L : List (List Int)} (b : Bags n L) : Wp I (F_least [.tup (tupsI L)]) (fun r => r = .tup (tupsI (lowG L))) X := by
  refine w_def rfl ?_
  unfold b_least
  (repeat (first | with_reducible refine ws_seq ?_ | with_reducible refine ws_asg ?_ | with_reducible refine ws_ret ?_ | with_reducible refine ws_if ?_ | with_reducible refine ws_next ?_ | with_reducible refine ws_retN ?_ | with_reducible refine ws_brk ?_ | with_reducible refine ws_cont ?_ | with_reducible refine ws_drop ?_ | with_reducible refine ws_setI ?_ | with_reducible refine ws_for ?_ | with_reducible refine ws_par ?_ | with_reducible refine ws_frz ?_ | with_reducible refine ws_parO ?_ | with_reducible refine ws_setOwn ?_ | with_reducible refine ⟨fun _ => ?_, fun z => absurd rfl z⟩ | refine And.intro rt_nx fun _ => ?_ | refine And.intro bk_nx fun _ => ?_ | refine And.intro ct_nx fun _ => ?_ | with_reducible refine w_c2 ?_ | with_reducible refine w_c1 ?_ | with_reducible refine w_cA ?_ | with_reducible refine w_cons ?_ | with_reducible refine w_nil ?_ | with_reducible refine w_c ?_ | with_reducible refine w_call ?_ | with_reducible refine w_it ?_ | with_reducible refine w_rng1 ?_ | with_reducible refine w_rng2 ?_ | with_reducible refine w_m0 ?_ | with_reducible refine w_m1 ?_ | with_reducible refine w_sl ?_ | with_reducible refine w_part ?_ | with_reducible refine w_noP ?_ | with_reducible refine w_b ?_ | with_reducible refine w_notB ?_ | with_reducible refine w_if ?_ | with_reducible refine w_chain ?_ | with_reducible refine w_zip ?_ | with_reducible refine w_enum ?_ | with_reducible refine wg_add ?_ | with_reducible refine wg_sub ?_ | with_reducible refine wg_neg ?_ | with_reducible refine wg_lt ?_ | with_reducible refine wg_le ?_ | with_reducible refine wg_gt ?_ | with_reducible refine wg_ge ?_ | with_reducible refine wg_not ?_ | with_reducible refine wg_lenL ?_ | with_reducible refine wg_lenT ?_ | with_reducible refine wg_lenC ?_ | with_reducible refine wg_int ?_ | with_reducible refine wg_intB ?_ | with_reducible refine wg_abs ?_ | with_reducible refine wg_max2 ?_ | with_reducible refine wg_min2 ?_ | with_reducible refine wg_reprB ?_ | with_reducible refine wg_itL ?_ | with_reducible refine wg_itT ?_ | with_reducible refine wg_itC ?_ | with_reducible refine wg_itS ?_ | with_reducible refine wg_slL ?_ | with_reducible refine wg_slT ?_ | with_reducible refine wg_tupleL ?_ | with_reducible refine wg_tupleT ?_ | with_reducible refine wg_listL ?_ | with_reducible refine wg_listT ?_ | with_reducible refine wg_revL ?_ | with_reducible refine wg_revT ?_ | with_reducible refine wg_zipT ?_ | with_reducible refine wg_allM ?_ | with_reducible refine wg_anyM ?_ | with_reducible refine w_var (by with_unfolding_all rfl) ?_ | with_reducible refine wg_mul (Or.inr (by decide)) ?_ | with_reducible refine wg_mul (Or.inl (by decide)) ?_ | with_reducible refine wg_mod (by decide +kernel) ?_ | with_reducible refine wg_fdiv (by decide) ?_ | with_reducible refine wg_pow (by decide +kernel) ?_ | with_reducible refine wg_tup (by simp; done) ?_ | with_reducible refine wg_lst (by simp; done) ?_ | with_reducible refine w_dieSet (by decide) ?_ | with_reducible refine w_dieAt (by decide) (fun _ => ?_) | refine ⟨_, rfl, ?_⟩ | refine ⟨rfl, ?_⟩))
  refine (w_bags b).imp (fun r _ => ?_) fun _ _ x => x
  (repeat (first | with_reducible refine ws_seq ?_ | with_reducible refine ws_asg ?_ | with_reducible refine ws_ret ?_ | with_reducible refine ws_if ?_ | with_reducible refine ws_next ?_ | with_reducible refine ws_retN ?_ | with_reducible refine ws_brk ?_ | with_reducible refine ws_cont ?_ | with_reducible refine ws_drop ?_ | with_reducible refine ws_setI ?_ | with_reducible refine ws_for ?_ | with_reducible refine ws_par ?_ | with_reducible refine ws_frz ?_ | with_reducible refine ws_parO ?_ | with_reducible refine ws_setOwn ?_ | with_reducible refine ⟨fun _ => ?_, fun z => absurd rfl z⟩ | refine And.intro rt_nx fun _ => ?_ | refine And.intro bk_nx fun _ => ?_ | refine And.intro ct_nx fun _ => ?_ | with_reducible refine w_c2 ?_ | with_reducible refine w_c1 ?_ | with_reducible refine w_cA ?_ | with_reducible refine w_cons ?_ | with_reducible refine w_nil ?_ | with_reducible refine w_c ?_ | with_reducible refine w_call ?_ | with_reducible refine w_it ?_ | with_reducible refine w_rng1 ?_ | with_reducible refine w_rng2 ?_ | with_reducible refine w_m0 ?_ | with_reducible refine w_m1 ?_ | with_reducible refine w_sl ?_ | with_reducible refine w_part ?_ | with_reducible refine w_noP ?_ | with_reducible refine w_b ?_ | with_reducible refine w_notB ?_ | with_reducible refine w_if ?_ | with_reducible refine w_chain ?_ | with_reducible refine w_zip ?_ | with_reducible refine w_enum ?_ | with_reducible refine wg_add ?_ | with_reducible refine wg_sub ?_ | with_reducible refine wg_neg ?_ | with_reducible refine wg_lt ?_ | with_reducible refine wg_le ?_ | with_reducible refine wg_gt ?_ | with_reducible refine wg_ge ?_ | with_reducible refine wg_not ?_ | with_reducible refine wg_lenL ?_ | with_reducible refine wg_lenT ?_ | with_reducible refine wg_lenC ?_ | with_reducible refine wg_int ?_ | with_reducible refine wg_intB ?_ | with_reducible refine wg_abs ?_ | with_reducible refine wg_max2 ?_ | with_reducible refine wg_min2 ?_ | with_reducible refine wg_reprB ?_ | with_reducible refine wg_itL ?_ | with_reducible refine wg_itT ?_ | with_reducible refine wg_itC ?_ | with_reducible refine wg_itS ?_ | with_reducible refine wg_slL ?_ | with_reducible refine wg_slT ?_ | with_reducible refine wg_tupleL ?_ | with_reducible refine wg_tupleT ?_ | with_reducible refine wg_listL ?_ | with_reducible refine wg_listT ?_ | with_reducible refine wg_revL ?_ | with_reducible refine wg_revT ?_ | with_reducible refine wg_zipT ?_ | with_reducible refine wg_allM ?_ | with_reducible refine wg_anyM ?_ | with_reducible refine w_var (by with_unfolding_all rfl) ?_ | with_reducible refine wg_mul (Or.inr (by decide)) ?_ | with_reducible refine wg_mul (Or.inl (by decide)) ?_ | with_reducible refine wg_mod (by decide +kernel) ?_ | with_reducible refine wg_fdiv (by decide) ?_ | with_reducible refine wg_pow (by decide +kernel) ?_ | with_reducible refine wg_tup (by simp; done) ?_ | with_reducible refine wg_lst (by simp; done) ?_ | with_reducible refine w_dieSet (by decide) ?_ | with_reducible refine w_dieAt (by decide) (fun _ => ?_) | refine ⟨_, rfl, ?_⟩ | refine ⟨rfl, ?_⟩))
  exact w_least_of b
end
end K03
namespace K03
open PySem PySem.Spec PyProof.Rows L2 DN KB
theorem w_any_wide {n : Nat} {X : XP} {k : Nat} (hk : k ≤ 5) : Wp (IsDie n) (F_law_any_wide [.mut n, .int k]) (fun r => ∃ xs, r = bagD xs ∧ xs.length = k ∧ ∀ x ∈ xs, -1 ≤ x ∧ x ≤ 10 ^ 38) X := by
  refine w_def rfl ?_
  unfold b_law_any_wide
  (repeat (first | with_reducible refine ws_seq ?_ | with_reducible refine ws_asg ?_ | with_reducible refine ws_ret ?_ | with_reducible refine ws_if ?_ | with_reducible refine ws_next ?_ | with_reducible refine ws_retN ?_ | with_reducible refine ws_brk ?_ | with_reducible refine ws_cont ?_ | with_reducible refine ws_drop ?_ | with_reducible refine ws_setI ?_ | with_reducible refine ws_for ?_ | with_reducible refine ws_par ?_ | with_reducible refine ws_frz ?_ | with_reducible refine ws_parO ?_ | with_reducible refine ws_setOwn ?_ | with_reducible refine ⟨fun _ => ?_, fun z => absurd rfl z⟩ | refine And.intro rt_nx fun _ => ?_ | refine And.intro bk_nx fun _ => ?_ | refine And.intro ct_nx fun _ => ?_ | with_reducible refine w_c2 ?_ | with_reducible refine w_c1 ?_ | with_reducible refine w_cA ?_ | with_reducible refine w_cons ?_ | with_reducible refine w_nil ?_ | with_reducible refine w_c ?_ | with_reducible refine w_call ?_ | with_reducible refine w_it ?_ | with_reducible refine w_rng1 ?_ | with_reducible refine w_rng2 ?_ | with_reducible refine w_m0 ?_ | with_reducible refine w_m1 ?_ | with_reducible refine w_sl ?_ | with_reducible refine w_part ?_ | with_reducible refine w_noP ?_ | with_reducible refine w_b ?_ | with_reducible refine w_notB ?_ | with_reducible refine w_if ?_ | with_reducible refine w_chain ?_ | with_reducible refine w_zip ?_ | with_reducible refine w_enum ?_ | with_reducible refine wg_add ?_ | with_reducible refine wg_sub ?_ | with_reducible refine wg_neg ?_ | with_reducible refine wg_lt ?_ | with_reducible refine wg_le ?_ | with_reducible refine wg_gt ?_ | with_reducible refine wg_ge ?_ | with_reducible refine wg_not ?_ | with_reducible refine wg_lenL ?_ | with_reducible refine wg_lenT ?_ | with_reducible refine wg_lenC ?_ | with_reducible refine wg_int ?_ | with_reducible refine wg_intB ?_ | with_reducible refine wg_abs ?_ | with_reducible refine wg_max2 ?_ | with_reducible refine wg_min2 ?_ | with_reducible refine wg_reprB ?_ | with_reducible refine wg_itL ?_ | with_reducible refine wg_itT ?_ | with_reducible refine wg_itC ?_ | with_reducible refine wg_itS ?_ | with_reducible refine wg_slL ?_ | with_reducible refine wg_slT ?_ | with_reducible refine wg_tupleL ?_ | with_reducible refine wg_tupleT ?_ | with_reducible refine wg_listL ?_ | with_reducible refine wg_listT ?_ | with_reducible refine wg_revL ?_ | with_reducible refine wg_revT ?_ | with_reducible refine wg_zipT ?_ | with_reducible refine wg_allM ?_ | with_reducible refine wg_anyM ?_ | with_reducible refine w_var (by with_unfolding_all rfl) ?_ | with_reducible refine wg_mul (Or.inr (by decide)) ?_ | with_reducible refine wg_mul (Or.inl (by decide)) ?_ | with_reducible refine wg_mod (by decide +kernel) ?_ | with_reducible refine wg_fdiv (by decide) ?_ | with_reducible refine wg_pow (by decide +kernel) ?_ | with_reducible refine wg_tup (by simp; done) ?_ | with_reducible refine wg_lst (by simp; done) ?_ | with_reducible refine w_dieSet (by decide) ?_ | with_reducible refine w_dieAt (by decide) (fun _ => ?_) | refine ⟨_, rfl, ?_⟩ | refine ⟨rfl, ?_⟩))
  refine w_comp (fun _ o => ∃ y, o = some y ∧ ∃ i, y = D.int i ∧ -1 ≤ i ∧ i ≤ 10 ^ 38) ?_
  (repeat (first | with_reducible refine ws_seq ?_ | with_reducible refine ws_asg ?_ | with_reducible refine ws_ret ?_ | with_reducible refine ws_if ?_ | with_reducible refine ws_next ?_ | with_reducible refine ws_retN ?_ | with_reducible refine ws_brk ?_ | with_reducible refine ws_cont ?_ | with_reducible refine ws_drop ?_ | with_reducible refine ws_setI ?_ | with_reducible refine ws_for ?_ | with_reducible refine ws_par ?_ | with_reducible refine ws_frz ?_ | with_reducible refine ws_parO ?_ | with_reducible refine ws_setOwn ?_ | with_reducible refine ⟨fun _ => ?_, fun z => absurd rfl z⟩ | refine And.intro rt_nx fun _ => ?_ | refine And.intro bk_nx fun _ => ?_ | refine And.intro ct_nx fun _ => ?_ | with_reducible refine w_c2 ?_ | with_reducible refine w_c1 ?_ | with_reducible refine w_cA ?_ | with_reducible refine w_cons ?_ | with_reducible refine w_nil ?_ | with_reducible refine w_c ?_ | with_reducible refine w_call ?_ | with_reducible refine w_it ?_ | with_reducible refine w_rng1 ?_ | with_reducible refine w_rng2 ?_ | with_reducible refine w_m0 ?_ | with_reducible refine w_m1 ?_ | with_reducible refine w_sl ?_ | with_reducible refine w_part ?_ | with_reducible refine w_noP ?_ | with_reducible refine w_b ?_ | with_reducible refine w_notB ?_ | with_reducible refine w_if ?_ | with_reducible refine w_chain ?_ | with_reducible refine w_zip ?_ | with_reducible refine w_enum ?_ | with_reducible refine wg_add ?_ | with_reducible refine wg_sub ?_ | with_reducible refine wg_neg ?_ | with_reducible refine wg_lt ?_ | with_reducible refine wg_le ?_ | with_reducible refine wg_gt ?_ | with_reducible refine wg_ge ?_ | with_reducible refine wg_not ?_ | with_reducible refine wg_lenL ?_ | with_reducible refine wg_lenT ?_ | with_reducible refine wg_lenC ?_ | with_reducible refine wg_int ?_ | with_reducible refine wg_intB ?_ | with_reducible refine wg_abs ?_ | with_reducible refine wg_max2 ?_ | with_reducible refine wg_min2 ?_ | with_reducible refine wg_reprB ?_ | with_reducible refine wg_itL ?_ | with_reducible refine wg_itT ?_ | with_reducible refine wg_itC ?_ | with_reducible refine wg_itS ?_ | with_reducible refine wg_slL ?_ | with_reducible refine wg_slT ?_ | with_reducible refine wg_tupleL ?_ | with_reducible refine wg_tupleT ?_ | with_reducible refine wg_listL ?_ | with_reducible refine wg_listT ?_ | with_reducible refine wg_revL ?_ | with_reducible refine wg_revT ?_ | with_reducible refine wg_zipT ?_ | with_reducible refine wg_allM ?_ | with_reducible refine wg_anyM ?_ | with_reducible refine w_var (by with_unfolding_all rfl) ?_ | with_reducible refine wg_mul (Or.inr (by decide)) ?_ | with_reducible refine wg_mul (Or.inl (by decide)) ?_ | with_reducible refine wg_mod (by decide +kernel) ?_ | with_reducible refine wg_fdiv (by decide) ?_ | with_reducible refine wg_pow (by decide +kernel) ?_ | with_reducible refine wg_tup (by simp; done) ?_ | with_reducible refine wg_lst (by simp; done) ?_ | with_reducible refine w_dieSet (by decide) ?_ | with_reducible refine w_dieAt (by decide) (fun _ => ?_) | refine ⟨_, rfl, ?_⟩ | refine ⟨rfl, ?_⟩))
  with_reducible refine wg_rngN (by omega) ⟨by rw [rngD_len]; omega, fun d hd => ⟨_, rfl, w_yes ⟨fun _ => ?_, fun h => (nomatch h)⟩⟩, fun ys hys => ?_⟩
  · (repeat (first | with_reducible refine ws_seq ?_ | with_reducible refine ws_asg ?_ | with_reducible refine ws_ret ?_ | with_reducible refine ws_if ?_ | with_reducible refine ws_next ?_ | with_reducible refine ws_retN ?_ | with_reducible refine ws_brk ?_ | with_reducible refine ws_cont ?_ | with_reducible refine ws_drop ?_ | with_reducible refine ws_setI ?_ | with_reducible refine ws_for ?_ | with_reducible refine ws_par ?_ | with_reducible refine ws_frz ?_ | with_reducible refine ws_parO ?_ | with_reducible refine ws_setOwn ?_ | with_reducible refine ⟨fun _ => ?_, fun z => absurd rfl z⟩ | refine And.intro rt_nx fun _ => ?_ | refine And.intro bk_nx fun _ => ?_ | refine And.intro ct_nx fun _ => ?_ | with_reducible refine w_c2 ?_ | with_reducible refine w_c1 ?_ | with_reducible refine w_cA ?_ | with_reducible refine w_cons ?_ | with_reducible refine w_nil ?_ | with_reducible refine w_c ?_ | with_reducible refine w_call ?_ | with_reducible refine w_it ?_ | with_reducible refine w_rng1 ?_ | with_reducible refine w_rng2 ?_ | with_reducible refine w_m0 ?_ | with_reducible refine w_m1 ?_ | with_reducible refine w_sl ?_ | with_reducible refine w_part ?_ | with_reducible refine w_noP ?_ | with_reducible refine w_b ?_ | with_reducible refine w_notB ?_ | with_reducible refine w_if ?_ | with_reducible refine w_chain ?_ | with_reducible refine w_zip ?_ | with_reducible refine w_enum ?_ | with_reducible refine wg_add ?_ | with_reducible refine wg_sub ?_ | with_reducible refine wg_neg ?_ | with_reducible refine wg_lt ?_ | with_reducible refine wg_le ?_ | with_reducible refine wg_gt ?_ | with_reducible refine wg_ge ?_ | with_reducible refine wg_not ?_ | with_reducible refine wg_lenL ?_ | with_reducible refine wg_lenT ?_ | with_reducible refine wg_lenC ?_ | with_reducible refine wg_int ?_ | with_reducible refine wg_intB ?_ | with_reducible refine wg_abs ?_ | with_reducible refine wg_max2 ?_ | with_reducible refine wg_min2 ?_ | with_reducible refine wg_reprB ?_ | with_reducible refine wg_itL ?_ | with_reducible refine wg_itT ?_ | with_reducible refine wg_itC ?_ | with_reducible refine wg_itS ?_ | with_reducible refine wg_slL ?_ | with_reducible refine wg_slT ?_ | with_reducible refine wg_tupleL ?_ | with_reducible refine wg_tupleT ?_ | with_reducible refine wg_listL ?_ | with_reducible refine wg_listT ?_ | with_reducible refine wg_revL ?_ | with_reducible refine wg_revT ?_ | with_reducible refine wg_zipT ?_ | with_reducible refine wg_allM ?_ | with_reducible refine wg_anyM ?_ | with_reducible refine w_var (by with_unfolding_all rfl) ?_ | with_reducible refine wg_mul (Or.inr (by decide)) ?_ | with_reducible refine wg_mul (Or.inl (by decide)) ?_ | with_reducible refine wg_mod (by decide +kernel) ?_ | with_reducible refine wg_fdiv (by decide) ?_ | with_reducible refine wg_pow (by decide +kernel) ?_ | with_reducible refine wg_tup (by simp; done) ?_ | with_reducible refine wg_lst (by simp; done) ?_ | with_reducible refine w_dieSet (by decide) ?_ | with_reducible refine w_dieAt (by decide) (fun _ => ?_) | refine ⟨_, rfl, ?_⟩ | refine ⟨rfl, ?_⟩))
    refine (w_pickL (by decide) (by decide)).imp (fun r hr => ⟨r, rfl, ?_⟩) fun _ _ x => x
    simp only [List.mem_cons, List.not_mem_nil, or_false] at hr
    rcases hr with h | h | h | h | h | h | h <;> subst h <;> exact ⟨_, rfl, by decide, by decide⟩
  · obtain ⟨hl, ha⟩ := hys.all
    obtain ⟨xs, rfl, hx⟩ := ints_of ha
    (repeat (first | with_reducible refine ws_seq ?_ | with_reducible refine ws_asg ?_ | with_reducible refine ws_ret ?_ | with_reducible refine ws_if ?_ | with_reducible refine ws_next ?_ | with_reducible refine ws_retN ?_ | with_reducible refine ws_brk ?_ | with_reducible refine ws_cont ?_ | with_reducible refine ws_drop ?_ | with_reducible refine ws_setI ?_ | with_reducible refine ws_for ?_ | with_reducible refine ws_par ?_ | with_reducible refine ws_frz ?_ | with_reducible refine ws_parO ?_ | with_reducible refine ws_setOwn ?_ | with_reducible refine ⟨fun _ => ?_, fun z => absurd rfl z⟩ | refine And.intro rt_nx fun _ => ?_ | refine And.intro bk_nx fun _ => ?_ | refine And.intro ct_nx fun _ => ?_ | with_reducible refine w_c2 ?_ | with_reducible refine w_c1 ?_ | with_reducible refine w_cA ?_ | with_reducible refine w_cons ?_ | with_reducible refine w_nil ?_ | with_reducible refine w_c ?_ | with_reducible refine w_call ?_ | with_reducible refine w_it ?_ | with_reducible refine w_rng1 ?_ | with_reducible refine w_rng2 ?_ | with_reducible refine w_m0 ?_ | with_reducible refine w_m1 ?_ | with_reducible refine w_sl ?_ | with_reducible refine w_part ?_ | with_reducible refine w_noP ?_ | with_reducible refine w_b ?_ | with_reducible refine w_notB ?_ | with_reducible refine w_if ?_ | with_reducible refine w_chain ?_ | with_reducible refine w_zip ?_ | with_reducible refine w_enum ?_ | with_reducible refine wg_add ?_ | with_reducible refine wg_sub ?_ | with_reducible refine wg_neg ?_ | with_reducible refine wg_lt ?_ | with_reducible refine wg_le ?_ | with_reducible refine wg_gt ?_ | with_reducible refine wg_ge ?_ | with_reducible refine wg_not ?_ | with_reducible refine wg_lenL ?_ | with_reducible refine wg_lenT ?_ | with_reducible refine wg_lenC ?_ | with_reducible refine wg_int ?_ | with_reducible refine wg_intB ?_ | with_reducible refine wg_abs ?_ | with_reducible refine wg_max2 ?_ | with_reducible refine wg_min2 ?_ | with_reducible refine wg_reprB ?_ | with_reducible refine wg_itL ?_ | with_reducible refine wg_itT ?_ | with_reducible refine wg_itC ?_ | with_reducible refine wg_itS ?_ | with_reducible refine wg_slL ?_ | with_reducible refine wg_slT ?_ | with_reducible refine wg_tupleL ?_ | with_reducible refine wg_tupleT ?_ | with_reducible refine wg_listL ?_ | with_reducible refine wg_listT ?_ | with_reducible refine wg_revL ?_ | with_reducible refine wg_revT ?_ | with_reducible refine wg_zipT ?_ | with_reducible refine wg_allM ?_ | with_reducible refine wg_anyM ?_ | with_reducible refine w_var (by with_unfolding_all rfl) ?_ | with_reducible refine wg_mul (Or.inr (by decide)) ?_ | with_reducible refine wg_mul (Or.inl (by decide)) ?_ | with_reducible refine wg_mod (by decide +kernel) ?_ | with_reducible refine wg_fdiv (by decide) ?_ | with_reducible refine wg_pow (by decide +kernel) ?_ | with_reducible refine wg_tup (by simp; done) ?_ | with_reducible refine wg_lst (by simp; done) ?_ | with_reducible refine w_dieSet (by decide) ?_ | with_reducible refine w_dieAt (by decide) (fun _ => ?_) | refine ⟨_, rfl, ?_⟩ | refine ⟨rfl, ?_⟩))
    rw [rngD_len, List.length_map] at hl
    exact ⟨by omega, hx⟩
end K03
namespace K03
open PySem PySem.Spec PyProof.Rows L2 DN KB SO
theorem unlist {n k : Nat} : ∀ {ys : List D}, (∀ y ∈ ys, ∃ xs, y = bagD xs ∧ xs.length = k ∧ ∀ x ∈ xs, -1 ≤ x ∧ x ≤ 10 ^ 38) → ys.length ≤ n → ∃ L : List (List Int), ys = tupsI L ∧ L.length ≤ n ∧ ∀ x ∈ L, x.length = k ∧ ∀ e ∈ x, -1 ≤ e
  | [], _, _ => ⟨[], rfl, Nat.zero_le _, fun _ h => by cases h⟩
  | y :: ys, h, hn => by
    obtain ⟨xs, rfl, hl, hx⟩ := h y List.mem_cons_self
    rw [List.length_cons] at hn
    obtain ⟨L, rfl, _, hL⟩ := unlist (n := ys.length) (fun z hz => h z (List.mem_cons_of_mem _ hz)) (Nat.le_refl _)
    refine ⟨xs :: L, rfl, ?_, fun x hx' => ?_⟩
    · rw [tups_len] at hn
      rw [List.length_cons]
      omega
    · rcases List.mem_cons.mp hx' with rfl | hx'
      · exact ⟨hl, fun e he => (hx e he).1⟩
      · exact hL x hx'
section
variable {I : Store → Prop} {X : XP}
/-- [other for other in L if within(one, other)] and turned -/
theorem w_filt {ρ : DN.Env} {i j v : Nat} {n : Nat} {L : List (List Int)} {x : List Int} {P : D → Prop} (t : Bool) (b : Bags n L) (wx : Wide x) (lx : x.length = n) (d : D) (hd : d = .lst (tupsI L) ∨ d = .tup (tupsI L)) (hi : ρ[i]? = some (.val d)) (hj : ρ[j]? = some (.val (bagD x))) (hv : v < ρ.length) (hjv : v ≠ j)
    (h : P (.lst (tupsI (L.filter fun y => if t then within x y else within y x)))) :
    Wp I (cComp (cIt (cVar i)) (bName v) (cB (cCall 2 F_within (if t then cCons (cVar j) (cCons (cVar v) (cNil)) else cCons (cVar v) (cCons (cVar j) (cNil))))) (cVar v) [v] ρ) P X := by
  refine w_compF (fun d => (fun y => if t then within x y else within y x) (unD d)) id ?_
  have few := b.few
  have len := tups_len L
  have core : (tupsI L).length ≤ 16777216 ∧ (∀ d ∈ tupsI L, ∃ ρ', bName v d (wipeE ρ [v]) = some ρ' ∧ Wp I ((cB (cCall 2 F_within (if t then cCons (cVar j) (cCons (cVar v) (cNil)) else cCons (cVar v) (cCons (cVar j) (cNil))))) ρ') (fun k => k = (fun y => if t then within x y else within y x) (unD d) ∧ (k = true → Wp I (cVar v ρ') (fun y => y = id d) X0)) X0) ∧ P (.lst (((tupsI L).filter fun d => (fun y => if t then within x y else within y x) (unD d)).map id)) := by
    refine ⟨by omega, fun d hd => ⟨_, rfl, ?_⟩, by rw [tups_filter (fun y => if t then within x y else within y x), List.map_id]; exact h⟩
    obtain ⟨y, rfl, hy⟩ := tups_mem hd
    have e1 : ((wipeE ρ [v]).set v (Sl.val (bagD y)))[v]? = some (.val (bagD y)) := List.getElem?_set_self (by show v < (ρ.set v Sl.un).length; rw [List.length_set]; exact hv)
    have e2 : ((wipeE ρ [v]).set v (Sl.val (bagD y)))[j]? = some (.val (bagD x)) := by
      rw [List.getElem?_set_ne hjv]
      show (ρ.set v Sl.un)[j]? = _
      rw [List.getElem?_set_ne hjv]
      exact hj
    rw [unD_bag]
    have ly := b.len y hy
    cases t with
    | true =>
      refine w_b (w_call (w_cons (w_var e2 (w_cons (w_var e1 (w_nil ⟨rfl, ?_⟩))))))
      refine (w_within wx (b.w hy) (by omega)).imp (fun r hr => ?_) fun _ _ x => x
      subst hr
      exact ⟨_, rfl, rfl, fun _ => w_var e1 rfl⟩
    | false =>
      refine w_b (w_call (w_cons (w_var e1 (w_cons (w_var e2 (w_nil ⟨rfl, ?_⟩))))))
      refine (w_within (b.w hy) wx (by omega)).imp (fun r hr => ?_) fun _ _ x => x
      subst hr
      exact ⟨_, rfl, rfl, fun _ => w_var e1 rfl⟩
  rcases hd with rfl | rfl
  · exact w_it (w_var hi (wg_itL core))
  · exact w_it (w_var hi (wg_itT core))
end
/-- the frame's names that stay -/
structure Bs (n k : Nat) (S : List (List Int)) (ρ : DN.Env) : Prop where
  v0 : ρ[0]? = some (.val (.mut n))
  v1 : ρ[1]? = some (.val (.int k))
  v2 : ρ[2]? = some (.val (.tup (tupsI S)))
  v7 : ρ[7]? = some (.val (.tup (tupsI (topG S))))
  v8 : ρ[8]? = some (.val (.tup (tupsI (lowG S))))
  len : ρ.length = 12
theorem Bs.set {n k : Nat} {S : List (List Int)} {ρ : DN.Env} (b : Bs n k S ρ) {i : Nat} (d : Sl) (h : i ≠ 0 ∧ i ≠ 1 ∧ i ≠ 2 ∧ i ≠ 7 ∧ i ≠ 8) : Bs n k S (ρ.set i d) :=
  ⟨by rw [List.getElem?_set_ne h.1]; exact b.v0, by rw [List.getElem?_set_ne h.2.1]; exact b.v1, by rw [List.getElem?_set_ne h.2.2.1]; exact b.v2, by rw [List.getElem?_set_ne h.2.2.2.1]; exact b.v7,
    by rw [List.getElem?_set_ne h.2.2.2.2]; exact b.v8, by rw [List.length_set]; exact b.len⟩
theorem Bs.at {n k : Nat} {S : List (List Int)} {ρ : DN.Env} (b : Bs n k S ρ) {i : Nat} (d : Sl) (h : i < 12) : (ρ.set i d)[i]? = some d := List.getElem?_set_self (by rw [b.len]; exact h)
structure Told (k : Nat) (S T : List (List Int)) : Prop where
  bags : Bags k T
  asc : Asc T
  sub : ∀ x ∈ T, x ∈ S
  free : ∀ x ∈ T, ∀ y ∈ T, within x y = true → x = y
theorem told_top {k : Nat} {S : List (List Int)} (b : Bags k S) : Told k S (topG S) := ⟨b.top, asc_topG S, fun x h => (mem_topG.mp h).1, fun x hx y hy h => (mem_topG.mp hx).2 y (mem_topG.mp hy).1 h⟩
theorem told_low {k : Nat} {S : List (List Int)} (b : Bags k S) : Told k S (lowG S) := ⟨b.low, asc_lowG S, fun x h => (mem_lowG.mp h).1, fun x hx y hy h => ((mem_lowG.mp hy).2 x (mem_lowG.mp hx).1 h).symm⟩
theorem w_right {n : Nat} {X : XP} : Wp (IsDie n) (F_law_right [.mut n]) (fun r => r = .bl true) X := by
  refine w_def rfl ?_
  unfold b_law_right
  (repeat (first | with_reducible refine ws_seq ?_ | with_reducible refine ws_asg ?_ | with_reducible refine ws_ret ?_ | with_reducible refine ws_if ?_ | with_reducible refine ws_next ?_ | with_reducible refine ws_retN ?_ | with_reducible refine ws_brk ?_ | with_reducible refine ws_cont ?_ | with_reducible refine ws_drop ?_ | with_reducible refine ws_setI ?_ | with_reducible refine ws_for ?_ | with_reducible refine ws_par ?_ | with_reducible refine ws_frz ?_ | with_reducible refine ws_parO ?_ | with_reducible refine ws_setOwn ?_ | with_reducible refine ⟨fun _ => ?_, fun z => absurd rfl z⟩ | refine And.intro rt_nx fun _ => ?_ | refine And.intro bk_nx fun _ => ?_ | refine And.intro ct_nx fun _ => ?_ | with_reducible refine w_c2 ?_ | with_reducible refine w_c1 ?_ | with_reducible refine w_cA ?_ | with_reducible refine w_cons ?_ | with_reducible refine w_nil ?_ | with_reducible refine w_c ?_ | with_reducible refine w_call ?_ | with_reducible refine w_it ?_ | with_reducible refine w_rng1 ?_ | with_reducible refine w_rng2 ?_ | with_reducible refine w_m0 ?_ | with_reducible refine w_m1 ?_ | with_reducible refine w_sl ?_ | with_reducible refine w_part ?_ | with_reducible refine w_noP ?_ | with_reducible refine w_b ?_ | with_reducible refine w_notB ?_ | with_reducible refine w_if ?_ | with_reducible refine w_chain ?_ | with_reducible refine w_zip ?_ | with_reducible refine w_enum ?_ | with_reducible refine wg_add ?_ | with_reducible refine wg_sub ?_ | with_reducible refine wg_neg ?_ | with_reducible refine wg_lt ?_ | with_reducible refine wg_le ?_ | with_reducible refine wg_gt ?_ | with_reducible refine wg_ge ?_ | with_reducible refine wg_not ?_ | with_reducible refine wg_lenL ?_ | with_reducible refine wg_lenT ?_ | with_reducible refine wg_lenC ?_ | with_reducible refine wg_int ?_ | with_reducible refine wg_intB ?_ | with_reducible refine wg_abs ?_ | with_reducible refine wg_max2 ?_ | with_reducible refine wg_min2 ?_ | with_reducible refine wg_reprB ?_ | with_reducible refine wg_itL ?_ | with_reducible refine wg_itT ?_ | with_reducible refine wg_itC ?_ | with_reducible refine wg_itS ?_ | with_reducible refine wg_slL ?_ | with_reducible refine wg_slT ?_ | with_reducible refine wg_tupleL ?_ | with_reducible refine wg_tupleT ?_ | with_reducible refine wg_listL ?_ | with_reducible refine wg_listT ?_ | with_reducible refine wg_revL ?_ | with_reducible refine wg_revT ?_ | with_reducible refine wg_zipT ?_ | with_reducible refine wg_allM ?_ | with_reducible refine wg_anyM ?_ | with_reducible refine w_var (by with_unfolding_all rfl) ?_ | with_reducible refine wg_mul (Or.inr (by decide)) ?_ | with_reducible refine wg_mul (Or.inl (by decide)) ?_ | with_reducible refine wg_mod (by decide +kernel) ?_ | with_reducible refine wg_fdiv (by decide) ?_ | with_reducible refine wg_pow (by decide +kernel) ?_ | with_reducible refine wg_tup (by simp; done) ?_ | with_reducible refine wg_lst (by simp; done) ?_ | with_reducible refine w_dieSet (by decide) ?_ | with_reducible refine w_dieAt (by decide) (fun _ => ?_) | refine ⟨_, rfl, ?_⟩ | refine ⟨rfl, ?_⟩))
  refine (w_pickL (by decide) (by decide)).imp (fun d hd => ?_) fun _ _ x => x
  obtain ⟨k, rfl, k0, k5⟩ : ∃ k : Nat, d = .int k ∧ 0 < k ∧ k ≤ 5 := by
    simp only [List.mem_cons, List.not_mem_nil, or_false] at hd
    rcases hd with h | h | h | h | h <;> subst h
    · exact ⟨2, rfl, by decide, by decide⟩
    · exact ⟨1, rfl, by decide, by decide⟩
    · exact ⟨3, rfl, by decide, by decide⟩
    · exact ⟨4, rfl, by decide, by decide⟩
    · exact ⟨5, rfl, by decide, by decide⟩
  (repeat (first | with_reducible refine ws_seq ?_ | with_reducible refine ws_asg ?_ | with_reducible refine ws_ret ?_ | with_reducible refine ws_if ?_ | with_reducible refine ws_next ?_ | with_reducible refine ws_retN ?_ | with_reducible refine ws_brk ?_ | with_reducible refine ws_cont ?_ | with_reducible refine ws_drop ?_ | with_reducible refine ws_setI ?_ | with_reducible refine ws_for ?_ | with_reducible refine ws_par ?_ | with_reducible refine ws_frz ?_ | with_reducible refine ws_parO ?_ | with_reducible refine ws_setOwn ?_ | with_reducible refine ⟨fun _ => ?_, fun z => absurd rfl z⟩ | refine And.intro rt_nx fun _ => ?_ | refine And.intro bk_nx fun _ => ?_ | refine And.intro ct_nx fun _ => ?_ | with_reducible refine w_c2 ?_ | with_reducible refine w_c1 ?_ | with_reducible refine w_cA ?_ | with_reducible refine w_cons ?_ | with_reducible refine w_nil ?_ | with_reducible refine w_c ?_ | with_reducible refine w_call ?_ | with_reducible refine w_it ?_ | with_reducible refine w_rng1 ?_ | with_reducible refine w_rng2 ?_ | with_reducible refine w_m0 ?_ | with_reducible refine w_m1 ?_ | with_reducible refine w_sl ?_ | with_reducible refine w_part ?_ | with_reducible refine w_noP ?_ | with_reducible refine w_b ?_ | with_reducible refine w_notB ?_ | with_reducible refine w_if ?_ | with_reducible refine w_chain ?_ | with_reducible refine w_zip ?_ | with_reducible refine w_enum ?_ | with_reducible refine wg_add ?_ | with_reducible refine wg_sub ?_ | with_reducible refine wg_neg ?_ | with_reducible refine wg_lt ?_ | with_reducible refine wg_le ?_ | with_reducible refine wg_gt ?_ | with_reducible refine wg_ge ?_ | with_reducible refine wg_not ?_ | with_reducible refine wg_lenL ?_ | with_reducible refine wg_lenT ?_ | with_reducible refine wg_lenC ?_ | with_reducible refine wg_int ?_ | with_reducible refine wg_intB ?_ | with_reducible refine wg_abs ?_ | with_reducible refine wg_max2 ?_ | with_reducible refine wg_min2 ?_ | with_reducible refine wg_reprB ?_ | with_reducible refine wg_itL ?_ | with_reducible refine wg_itT ?_ | with_reducible refine wg_itC ?_ | with_reducible refine wg_itS ?_ | with_reducible refine wg_slL ?_ | with_reducible refine wg_slT ?_ | with_reducible refine wg_tupleL ?_ | with_reducible refine wg_tupleT ?_ | with_reducible refine wg_listL ?_ | with_reducible refine wg_listT ?_ | with_reducible refine wg_revL ?_ | with_reducible refine wg_revT ?_ | with_reducible refine wg_zipT ?_ | with_reducible refine wg_allM ?_ | with_reducible refine wg_anyM ?_ | with_reducible refine w_var (by with_unfolding_all rfl) ?_ | with_reducible refine wg_mul (Or.inr (by decide)) ?_ | with_reducible refine wg_mul (Or.inl (by decide)) ?_ | with_reducible refine wg_mod (by decide +kernel) ?_ | with_reducible refine wg_fdiv (by decide) ?_ | with_reducible refine wg_pow (by decide +kernel) ?_ | with_reducible refine wg_tup (by simp; done) ?_ | with_reducible refine wg_lst (by simp; done) ?_ | with_reducible refine w_dieSet (by decide) ?_ | with_reducible refine w_dieAt (by decide) (fun _ => ?_) | refine ⟨_, rfl, ?_⟩ | refine ⟨rfl, ?_⟩))
  refine w_comp (fun _ o => ∃ y, o = some y ∧ ∃ xs, y = bagD xs ∧ xs.length = k ∧ ∀ x ∈ xs, -1 ≤ x ∧ x ≤ 10 ^ 38) ?_
  (repeat (first | with_reducible refine ws_seq ?_ | with_reducible refine ws_asg ?_ | with_reducible refine ws_ret ?_ | with_reducible refine ws_if ?_ | with_reducible refine ws_next ?_ | with_reducible refine ws_retN ?_ | with_reducible refine ws_brk ?_ | with_reducible refine ws_cont ?_ | with_reducible refine ws_drop ?_ | with_reducible refine ws_setI ?_ | with_reducible refine ws_for ?_ | with_reducible refine ws_par ?_ | with_reducible refine ws_frz ?_ | with_reducible refine ws_parO ?_ | with_reducible refine ws_setOwn ?_ | with_reducible refine ⟨fun _ => ?_, fun z => absurd rfl z⟩ | refine And.intro rt_nx fun _ => ?_ | refine And.intro bk_nx fun _ => ?_ | refine And.intro ct_nx fun _ => ?_ | with_reducible refine w_c2 ?_ | with_reducible refine w_c1 ?_ | with_reducible refine w_cA ?_ | with_reducible refine w_cons ?_ | with_reducible refine w_nil ?_ | with_reducible refine w_c ?_ | with_reducible refine w_call ?_ | with_reducible refine w_it ?_ | with_reducible refine w_rng1 ?_ | with_reducible refine w_rng2 ?_ | with_reducible refine w_m0 ?_ | with_reducible refine w_m1 ?_ | with_reducible refine w_sl ?_ | with_reducible refine w_part ?_ | with_reducible refine w_noP ?_ | with_reducible refine w_b ?_ | with_reducible refine w_notB ?_ | with_reducible refine w_if ?_ | with_reducible refine w_chain ?_ | with_reducible refine w_zip ?_ | with_reducible refine w_enum ?_ | with_reducible refine wg_add ?_ | with_reducible refine wg_sub ?_ | with_reducible refine wg_neg ?_ | with_reducible refine wg_lt ?_ | with_reducible refine wg_le ?_ | with_reducible refine wg_gt ?_ | with_reducible refine wg_ge ?_ | with_reducible refine wg_not ?_ | with_reducible refine wg_lenL ?_ | with_reducible refine wg_lenT ?_ | with_reducible refine wg_lenC ?_ | with_reducible refine wg_int ?_ | with_reducible refine wg_intB ?_ | with_reducible refine wg_abs ?_ | with_reducible refine wg_max2 ?_ | with_reducible refine wg_min2 ?_ | with_reducible refine wg_reprB ?_ | with_reducible refine wg_itL ?_ | with_reducible refine wg_itT ?_ | with_reducible refine wg_itC ?_ | with_reducible refine wg_itS ?_ | with_reducible refine wg_slL ?_ | with_reducible refine wg_slT ?_ | with_reducible refine wg_tupleL ?_ | with_reducible refine wg_tupleT ?_ | with_reducible refine wg_listL ?_ | with_reducible refine wg_listT ?_ | with_reducible refine wg_revL ?_ | with_reducible refine wg_revT ?_ | with_reducible refine wg_zipT ?_ | with_reducible refine wg_allM ?_ | with_reducible refine wg_anyM ?_ | with_reducible refine w_var (by with_unfolding_all rfl) ?_ | with_reducible refine wg_mul (Or.inr (by decide)) ?_ | with_reducible refine wg_mul (Or.inl (by decide)) ?_ | with_reducible refine wg_mod (by decide +kernel) ?_ | with_reducible refine wg_fdiv (by decide) ?_ | with_reducible refine wg_pow (by decide +kernel) ?_ | with_reducible refine wg_tup (by simp; done) ?_ | with_reducible refine wg_lst (by simp; done) ?_ | with_reducible refine w_dieSet (by decide) ?_ | with_reducible refine w_dieAt (by decide) (fun _ => ?_) | refine ⟨_, rfl, ?_⟩ | refine ⟨rfl, ?_⟩))
  refine (w_cast (by decide) (by decide)).imp (fun d ⟨r, e, r0, r1⟩ => ?_) fun _ _ x => x
  subst e
  obtain ⟨m, rfl⟩ : ∃ m : Nat, r = m := ⟨r.toNat, by omega⟩
  with_reducible refine wg_rngN (by omega) ?_
  refine ⟨by rw [rngD_len]; omega, fun d hd => ⟨_, rfl, w_yes ⟨fun _ => ?_, fun h => (nomatch h)⟩⟩, fun ys hys => ?_⟩
  · (repeat (first | with_reducible refine ws_seq ?_ | with_reducible refine ws_asg ?_ | with_reducible refine ws_ret ?_ | with_reducible refine ws_if ?_ | with_reducible refine ws_next ?_ | with_reducible refine ws_retN ?_ | with_reducible refine ws_brk ?_ | with_reducible refine ws_cont ?_ | with_reducible refine ws_drop ?_ | with_reducible refine ws_setI ?_ | with_reducible refine ws_for ?_ | with_reducible refine ws_par ?_ | with_reducible refine ws_frz ?_ | with_reducible refine ws_parO ?_ | with_reducible refine ws_setOwn ?_ | with_reducible refine ⟨fun _ => ?_, fun z => absurd rfl z⟩ | refine And.intro rt_nx fun _ => ?_ | refine And.intro bk_nx fun _ => ?_ | refine And.intro ct_nx fun _ => ?_ | with_reducible refine w_c2 ?_ | with_reducible refine w_c1 ?_ | with_reducible refine w_cA ?_ | with_reducible refine w_cons ?_ | with_reducible refine w_nil ?_ | with_reducible refine w_c ?_ | with_reducible refine w_call ?_ | with_reducible refine w_it ?_ | with_reducible refine w_rng1 ?_ | with_reducible refine w_rng2 ?_ | with_reducible refine w_m0 ?_ | with_reducible refine w_m1 ?_ | with_reducible refine w_sl ?_ | with_reducible refine w_part ?_ | with_reducible refine w_noP ?_ | with_reducible refine w_b ?_ | with_reducible refine w_notB ?_ | with_reducible refine w_if ?_ | with_reducible refine w_chain ?_ | with_reducible refine w_zip ?_ | with_reducible refine w_enum ?_ | with_reducible refine wg_add ?_ | with_reducible refine wg_sub ?_ | with_reducible refine wg_neg ?_ | with_reducible refine wg_lt ?_ | with_reducible refine wg_le ?_ | with_reducible refine wg_gt ?_ | with_reducible refine wg_ge ?_ | with_reducible refine wg_not ?_ | with_reducible refine wg_lenL ?_ | with_reducible refine wg_lenT ?_ | with_reducible refine wg_lenC ?_ | with_reducible refine wg_int ?_ | with_reducible refine wg_intB ?_ | with_reducible refine wg_abs ?_ | with_reducible refine wg_max2 ?_ | with_reducible refine wg_min2 ?_ | with_reducible refine wg_reprB ?_ | with_reducible refine wg_itL ?_ | with_reducible refine wg_itT ?_ | with_reducible refine wg_itC ?_ | with_reducible refine wg_itS ?_ | with_reducible refine wg_slL ?_ | with_reducible refine wg_slT ?_ | with_reducible refine wg_tupleL ?_ | with_reducible refine wg_tupleT ?_ | with_reducible refine wg_listL ?_ | with_reducible refine wg_listT ?_ | with_reducible refine wg_revL ?_ | with_reducible refine wg_revT ?_ | with_reducible refine wg_zipT ?_ | with_reducible refine wg_allM ?_ | with_reducible refine wg_anyM ?_ | with_reducible refine w_var (by with_unfolding_all rfl) ?_ | with_reducible refine wg_mul (Or.inr (by decide)) ?_ | with_reducible refine wg_mul (Or.inl (by decide)) ?_ | with_reducible refine wg_mod (by decide +kernel) ?_ | with_reducible refine wg_fdiv (by decide) ?_ | with_reducible refine wg_pow (by decide +kernel) ?_ | with_reducible refine wg_tup (by simp; done) ?_ | with_reducible refine wg_lst (by simp; done) ?_ | with_reducible refine w_dieSet (by decide) ?_ | with_reducible refine w_dieAt (by decide) (fun _ => ?_) | refine ⟨_, rfl, ?_⟩ | refine ⟨rfl, ?_⟩))
    exact (w_any_wide k5).imp (fun r hr => ⟨r, rfl, hr⟩) fun _ _ x => x
  obtain ⟨hl, ha⟩ := hys.all
  rw [rngD_len] at hl
  obtain ⟨L, rfl, lL, pL⟩ := unlist (n := 8) ha (by omega)
  have tl := tups_len L
  (repeat (first | with_reducible refine ws_seq ?_ | with_reducible refine ws_asg ?_ | with_reducible refine ws_ret ?_ | with_reducible refine ws_if ?_ | with_reducible refine ws_next ?_ | with_reducible refine ws_retN ?_ | with_reducible refine ws_brk ?_ | with_reducible refine ws_cont ?_ | with_reducible refine ws_drop ?_ | with_reducible refine ws_setI ?_ | with_reducible refine ws_for ?_ | with_reducible refine ws_par ?_ | with_reducible refine ws_frz ?_ | with_reducible refine ws_parO ?_ | with_reducible refine ws_setOwn ?_ | with_reducible refine ⟨fun _ => ?_, fun z => absurd rfl z⟩ | refine And.intro rt_nx fun _ => ?_ | refine And.intro bk_nx fun _ => ?_ | refine And.intro ct_nx fun _ => ?_ | with_reducible refine w_c2 ?_ | with_reducible refine w_c1 ?_ | with_reducible refine w_cA ?_ | with_reducible refine w_cons ?_ | with_reducible refine w_nil ?_ | with_reducible refine w_c ?_ | with_reducible refine w_call ?_ | with_reducible refine w_it ?_ | with_reducible refine w_rng1 ?_ | with_reducible refine w_rng2 ?_ | with_reducible refine w_m0 ?_ | with_reducible refine w_m1 ?_ | with_reducible refine w_sl ?_ | with_reducible refine w_part ?_ | with_reducible refine w_noP ?_ | with_reducible refine w_b ?_ | with_reducible refine w_notB ?_ | with_reducible refine w_if ?_ | with_reducible refine w_chain ?_ | with_reducible refine w_zip ?_ | with_reducible refine w_enum ?_ | with_reducible refine wg_add ?_ | with_reducible refine wg_sub ?_ | with_reducible refine wg_neg ?_ | with_reducible refine wg_lt ?_ | with_reducible refine wg_le ?_ | with_reducible refine wg_gt ?_ | with_reducible refine wg_ge ?_ | with_reducible refine wg_not ?_ | with_reducible refine wg_lenL ?_ | with_reducible refine wg_lenT ?_ | with_reducible refine wg_lenC ?_ | with_reducible refine wg_int ?_ | with_reducible refine wg_intB ?_ | with_reducible refine wg_abs ?_ | with_reducible refine wg_max2 ?_ | with_reducible refine wg_min2 ?_ | with_reducible refine wg_reprB ?_ | with_reducible refine wg_itL ?_ | with_reducible refine wg_itT ?_ | with_reducible refine wg_itC ?_ | with_reducible refine wg_itS ?_ | with_reducible refine wg_slL ?_ | with_reducible refine wg_slT ?_ | with_reducible refine wg_tupleL ?_ | with_reducible refine wg_tupleT ?_ | with_reducible refine wg_listL ?_ | with_reducible refine wg_listT ?_ | with_reducible refine wg_revL ?_ | with_reducible refine wg_revT ?_ | with_reducible refine wg_zipT ?_ | with_reducible refine wg_allM ?_ | with_reducible refine wg_anyM ?_ | with_reducible refine w_var (by with_unfolding_all rfl) ?_ | with_reducible refine wg_mul (Or.inr (by decide)) ?_ | with_reducible refine wg_mul (Or.inl (by decide)) ?_ | with_reducible refine wg_mod (by decide +kernel) ?_ | with_reducible refine wg_fdiv (by decide) ?_ | with_reducible refine wg_pow (by decide +kernel) ?_ | with_reducible refine wg_tup (by simp; done) ?_ | with_reducible refine wg_lst (by simp; done) ?_ | with_reducible refine w_dieSet (by decide) ?_ | with_reducible refine w_dieAt (by decide) (fun _ => ?_) | refine ⟨_, rfl, ?_⟩ | refine ⟨rfl, ?_⟩))
  refine w_comp (fun _ o => o = none ∨ ∃ y, o = some y ∧ y ∈ tupsI L) ?_
  (repeat (first | with_reducible refine ws_seq ?_ | with_reducible refine ws_asg ?_ | with_reducible refine ws_ret ?_ | with_reducible refine ws_if ?_ | with_reducible refine ws_next ?_ | with_reducible refine ws_retN ?_ | with_reducible refine ws_brk ?_ | with_reducible refine ws_cont ?_ | with_reducible refine ws_drop ?_ | with_reducible refine ws_setI ?_ | with_reducible refine ws_for ?_ | with_reducible refine ws_par ?_ | with_reducible refine ws_frz ?_ | with_reducible refine ws_parO ?_ | with_reducible refine ws_setOwn ?_ | with_reducible refine ⟨fun _ => ?_, fun z => absurd rfl z⟩ | refine And.intro rt_nx fun _ => ?_ | refine And.intro bk_nx fun _ => ?_ | refine And.intro ct_nx fun _ => ?_ | with_reducible refine w_c2 ?_ | with_reducible refine w_c1 ?_ | with_reducible refine w_cA ?_ | with_reducible refine w_cons ?_ | with_reducible refine w_nil ?_ | with_reducible refine w_c ?_ | with_reducible refine w_call ?_ | with_reducible refine w_it ?_ | with_reducible refine w_rng1 ?_ | with_reducible refine w_rng2 ?_ | with_reducible refine w_m0 ?_ | with_reducible refine w_m1 ?_ | with_reducible refine w_sl ?_ | with_reducible refine w_part ?_ | with_reducible refine w_noP ?_ | with_reducible refine w_b ?_ | with_reducible refine w_notB ?_ | with_reducible refine w_if ?_ | with_reducible refine w_chain ?_ | with_reducible refine w_zip ?_ | with_reducible refine w_enum ?_ | with_reducible refine wg_add ?_ | with_reducible refine wg_sub ?_ | with_reducible refine wg_neg ?_ | with_reducible refine wg_lt ?_ | with_reducible refine wg_le ?_ | with_reducible refine wg_gt ?_ | with_reducible refine wg_ge ?_ | with_reducible refine wg_not ?_ | with_reducible refine wg_lenL ?_ | with_reducible refine wg_lenT ?_ | with_reducible refine wg_lenC ?_ | with_reducible refine wg_int ?_ | with_reducible refine wg_intB ?_ | with_reducible refine wg_abs ?_ | with_reducible refine wg_max2 ?_ | with_reducible refine wg_min2 ?_ | with_reducible refine wg_reprB ?_ | with_reducible refine wg_itL ?_ | with_reducible refine wg_itT ?_ | with_reducible refine wg_itC ?_ | with_reducible refine wg_itS ?_ | with_reducible refine wg_slL ?_ | with_reducible refine wg_slT ?_ | with_reducible refine wg_tupleL ?_ | with_reducible refine wg_tupleT ?_ | with_reducible refine wg_listL ?_ | with_reducible refine wg_listT ?_ | with_reducible refine wg_revL ?_ | with_reducible refine wg_revT ?_ | with_reducible refine wg_zipT ?_ | with_reducible refine wg_allM ?_ | with_reducible refine wg_anyM ?_ | with_reducible refine w_var (by with_unfolding_all rfl) ?_ | with_reducible refine wg_mul (Or.inr (by decide)) ?_ | with_reducible refine wg_mul (Or.inl (by decide)) ?_ | with_reducible refine wg_mod (by decide +kernel) ?_ | with_reducible refine wg_fdiv (by decide) ?_ | with_reducible refine wg_pow (by decide +kernel) ?_ | with_reducible refine wg_tup (by simp; done) ?_ | with_reducible refine wg_lst (by simp; done) ?_ | with_reducible refine w_dieSet (by decide) ?_ | with_reducible refine w_dieAt (by decide) (fun _ => ?_) | refine ⟨_, rfl, ?_⟩ | refine ⟨rfl, ?_⟩))
  refine (w_cast (by decide) (by decide)).imp (fun d ⟨r, e, r0, r1⟩ => ?_) fun _ _ x => x
  subst e
  obtain ⟨m2, rfl⟩ : ∃ m : Nat, r = m := ⟨r.toNat, by omega⟩
  with_reducible refine wg_rngN (by omega) ?_
  refine ⟨by rw [rngD_len]; omega, fun d hd => ⟨_, rfl, ?_⟩, fun ys hys => ?_⟩
  · (repeat (first | with_reducible refine ws_seq ?_ | with_reducible refine ws_asg ?_ | with_reducible refine ws_ret ?_ | with_reducible refine ws_if ?_ | with_reducible refine ws_next ?_ | with_reducible refine ws_retN ?_ | with_reducible refine ws_brk ?_ | with_reducible refine ws_cont ?_ | with_reducible refine ws_drop ?_ | with_reducible refine ws_setI ?_ | with_reducible refine ws_for ?_ | with_reducible refine ws_par ?_ | with_reducible refine ws_frz ?_ | with_reducible refine ws_parO ?_ | with_reducible refine ws_setOwn ?_ | with_reducible refine ⟨fun _ => ?_, fun z => absurd rfl z⟩ | refine And.intro rt_nx fun _ => ?_ | refine And.intro bk_nx fun _ => ?_ | refine And.intro ct_nx fun _ => ?_ | with_reducible refine w_c2 ?_ | with_reducible refine w_c1 ?_ | with_reducible refine w_cA ?_ | with_reducible refine w_cons ?_ | with_reducible refine w_nil ?_ | with_reducible refine w_c ?_ | with_reducible refine w_call ?_ | with_reducible refine w_it ?_ | with_reducible refine w_rng1 ?_ | with_reducible refine w_rng2 ?_ | with_reducible refine w_m0 ?_ | with_reducible refine w_m1 ?_ | with_reducible refine w_sl ?_ | with_reducible refine w_part ?_ | with_reducible refine w_noP ?_ | with_reducible refine w_b ?_ | with_reducible refine w_notB ?_ | with_reducible refine w_if ?_ | with_reducible refine w_chain ?_ | with_reducible refine w_zip ?_ | with_reducible refine w_enum ?_ | with_reducible refine wg_add ?_ | with_reducible refine wg_sub ?_ | with_reducible refine wg_neg ?_ | with_reducible refine wg_lt ?_ | with_reducible refine wg_le ?_ | with_reducible refine wg_gt ?_ | with_reducible refine wg_ge ?_ | with_reducible refine wg_not ?_ | with_reducible refine wg_lenL ?_ | with_reducible refine wg_lenT ?_ | with_reducible refine wg_lenC ?_ | with_reducible refine wg_int ?_ | with_reducible refine wg_intB ?_ | with_reducible refine wg_abs ?_ | with_reducible refine wg_max2 ?_ | with_reducible refine wg_min2 ?_ | with_reducible refine wg_reprB ?_ | with_reducible refine wg_itL ?_ | with_reducible refine wg_itT ?_ | with_reducible refine wg_itC ?_ | with_reducible refine wg_itS ?_ | with_reducible refine wg_slL ?_ | with_reducible refine wg_slT ?_ | with_reducible refine wg_tupleL ?_ | with_reducible refine wg_tupleT ?_ | with_reducible refine wg_listL ?_ | with_reducible refine wg_listT ?_ | with_reducible refine wg_revL ?_ | with_reducible refine wg_revT ?_ | with_reducible refine wg_zipT ?_ | with_reducible refine wg_allM ?_ | with_reducible refine wg_anyM ?_ | with_reducible refine w_var (by with_unfolding_all rfl) ?_ | with_reducible refine wg_mul (Or.inr (by decide)) ?_ | with_reducible refine wg_mul (Or.inl (by decide)) ?_ | with_reducible refine wg_mod (by decide +kernel) ?_ | with_reducible refine wg_fdiv (by decide) ?_ | with_reducible refine wg_pow (by decide +kernel) ?_ | with_reducible refine wg_tup (by simp; done) ?_ | with_reducible refine wg_lst (by simp; done) ?_ | with_reducible refine w_dieSet (by decide) ?_ | with_reducible refine w_dieAt (by decide) (fun _ => ?_) | refine ⟨_, rfl, ?_⟩ | refine ⟨rfl, ?_⟩))
    refine wg_ne (eqD_lst L []) ⟨_, rfl, fun q => ?_, fun _ => .inl rfl⟩
    (repeat (first | with_reducible refine ws_seq ?_ | with_reducible refine ws_asg ?_ | with_reducible refine ws_ret ?_ | with_reducible refine ws_if ?_ | with_reducible refine ws_next ?_ | with_reducible refine ws_retN ?_ | with_reducible refine ws_brk ?_ | with_reducible refine ws_cont ?_ | with_reducible refine ws_drop ?_ | with_reducible refine ws_setI ?_ | with_reducible refine ws_for ?_ | with_reducible refine ws_par ?_ | with_reducible refine ws_frz ?_ | with_reducible refine ws_parO ?_ | with_reducible refine ws_setOwn ?_ | with_reducible refine ⟨fun _ => ?_, fun z => absurd rfl z⟩ | refine And.intro rt_nx fun _ => ?_ | refine And.intro bk_nx fun _ => ?_ | refine And.intro ct_nx fun _ => ?_ | with_reducible refine w_c2 ?_ | with_reducible refine w_c1 ?_ | with_reducible refine w_cA ?_ | with_reducible refine w_cons ?_ | with_reducible refine w_nil ?_ | with_reducible refine w_c ?_ | with_reducible refine w_call ?_ | with_reducible refine w_it ?_ | with_reducible refine w_rng1 ?_ | with_reducible refine w_rng2 ?_ | with_reducible refine w_m0 ?_ | with_reducible refine w_m1 ?_ | with_reducible refine w_sl ?_ | with_reducible refine w_part ?_ | with_reducible refine w_noP ?_ | with_reducible refine w_b ?_ | with_reducible refine w_notB ?_ | with_reducible refine w_if ?_ | with_reducible refine w_chain ?_ | with_reducible refine w_zip ?_ | with_reducible refine w_enum ?_ | with_reducible refine wg_add ?_ | with_reducible refine wg_sub ?_ | with_reducible refine wg_neg ?_ | with_reducible refine wg_lt ?_ | with_reducible refine wg_le ?_ | with_reducible refine wg_gt ?_ | with_reducible refine wg_ge ?_ | with_reducible refine wg_not ?_ | with_reducible refine wg_lenL ?_ | with_reducible refine wg_lenT ?_ | with_reducible refine wg_lenC ?_ | with_reducible refine wg_int ?_ | with_reducible refine wg_intB ?_ | with_reducible refine wg_abs ?_ | with_reducible refine wg_max2 ?_ | with_reducible refine wg_min2 ?_ | with_reducible refine wg_reprB ?_ | with_reducible refine wg_itL ?_ | with_reducible refine wg_itT ?_ | with_reducible refine wg_itC ?_ | with_reducible refine wg_itS ?_ | with_reducible refine wg_slL ?_ | with_reducible refine wg_slT ?_ | with_reducible refine wg_tupleL ?_ | with_reducible refine wg_tupleT ?_ | with_reducible refine wg_listL ?_ | with_reducible refine wg_listT ?_ | with_reducible refine wg_revL ?_ | with_reducible refine wg_revT ?_ | with_reducible refine wg_zipT ?_ | with_reducible refine wg_allM ?_ | with_reducible refine wg_anyM ?_ | with_reducible refine w_var (by with_unfolding_all rfl) ?_ | with_reducible refine wg_mul (Or.inr (by decide)) ?_ | with_reducible refine wg_mul (Or.inl (by decide)) ?_ | with_reducible refine wg_mod (by decide +kernel) ?_ | with_reducible refine wg_fdiv (by decide) ?_ | with_reducible refine wg_pow (by decide +kernel) ?_ | with_reducible refine wg_tup (by simp; done) ?_ | with_reducible refine wg_lst (by simp; done) ?_ | with_reducible refine w_dieSet (by decide) ?_ | with_reducible refine w_dieAt (by decide) (fun _ => ?_) | refine ⟨_, rfl, ?_⟩ | refine ⟨rfl, ?_⟩))
    have ne : 0 < L.length := by
      cases L with
      | nil => cases q
      | cons x L => exact Nat.succ_pos _
    exact (w_pickL (by omega) (by omega)).imp (fun r hr => .inr ⟨r, rfl, hr⟩) fun _ _ x => x
  obtain ⟨L2, rfl, l2, s2⟩ : ∃ L2 : List (List Int), ys = tupsI L2 ∧ L2.length ≤ 3 ∧ ∀ x ∈ L2, x ∈ L := by
    have g : ∀ {ds ys : List D}, Got_ (fun _ o => o = none ∨ ∃ y, o = some y ∧ y ∈ tupsI L) ds ys → ∃ L2 : List (List Int), ys = tupsI L2 ∧ L2.length ≤ ds.length ∧ ∀ x ∈ L2, x ∈ L := by
      intro ds ys h
      induction h with
      | nil => exact ⟨[], rfl, Nat.le_refl _, fun _ h => by cases h⟩
      | skip _ _ ih =>
        obtain ⟨L2, e, l, s⟩ := ih
        exact ⟨L2, e, by rw [List.length_cons]; omega, s⟩
      | take h _ ih =>
        obtain ⟨L2, rfl, l, s⟩ := ih
        rcases h with h | ⟨y, e, hy⟩
        · cases h
        · cases e
          obtain ⟨x, rfl, hx⟩ := tups_mem hy
          refine ⟨x :: L2, rfl, by rw [List.length_cons, List.length_cons]; omega, fun z hz => ?_⟩
          rcases List.mem_cons.mp hz with rfl | hz
          · exact hx
          · exact s z hz
    obtain ⟨L2, e, l, s⟩ := g hys
    rw [rngD_len] at l
    exact ⟨L2, e, by omega, s⟩
  have tl2 := tups_len L2
  refine wg_addL (by omega) ?_
  have ap : tupsI L ++ tupsI L2 = tupsI (L ++ L2) := by unfold tupsI; rw [List.map_append]
  rw [ap]
  have B : Bags k (L ++ L2) := by
    have mem : ∀ x ∈ L ++ L2, x ∈ L := fun x hx => (List.mem_append.mp hx).elim id (s2 x)
    exact ⟨k0, k5, by rw [List.length_append]; omega, fun x hx => (pL x (mem x hx)).1, fun x hx => (pL x (mem x hx)).2⟩
  revert B
  generalize L ++ L2 = S
  intro B
  have BT := B.top
  have BL := B.low
  have few := B.few
  have tfew := BT.few
  have lfew := BL.few
  have tS := tups_len S
  have tT := tups_len (topG S)
  have tL := tups_len (lowG S)
  (repeat (first | with_reducible refine ws_seq ?_ | with_reducible refine ws_asg ?_ | with_reducible refine ws_ret ?_ | with_reducible refine ws_if ?_ | with_reducible refine ws_next ?_ | with_reducible refine ws_retN ?_ | with_reducible refine ws_brk ?_ | with_reducible refine ws_cont ?_ | with_reducible refine ws_drop ?_ | with_reducible refine ws_setI ?_ | with_reducible refine ws_for ?_ | with_reducible refine ws_par ?_ | with_reducible refine ws_frz ?_ | with_reducible refine ws_parO ?_ | with_reducible refine ws_setOwn ?_ | with_reducible refine ⟨fun _ => ?_, fun z => absurd rfl z⟩ | refine And.intro rt_nx fun _ => ?_ | refine And.intro bk_nx fun _ => ?_ | refine And.intro ct_nx fun _ => ?_ | with_reducible refine w_c2 ?_ | with_reducible refine w_c1 ?_ | with_reducible refine w_cA ?_ | with_reducible refine w_cons ?_ | with_reducible refine w_nil ?_ | with_reducible refine w_c ?_ | with_reducible refine w_call ?_ | with_reducible refine w_it ?_ | with_reducible refine w_rng1 ?_ | with_reducible refine w_rng2 ?_ | with_reducible refine w_m0 ?_ | with_reducible refine w_m1 ?_ | with_reducible refine w_sl ?_ | with_reducible refine w_part ?_ | with_reducible refine w_noP ?_ | with_reducible refine w_b ?_ | with_reducible refine w_notB ?_ | with_reducible refine w_if ?_ | with_reducible refine w_chain ?_ | with_reducible refine w_zip ?_ | with_reducible refine w_enum ?_ | with_reducible refine wg_add ?_ | with_reducible refine wg_sub ?_ | with_reducible refine wg_neg ?_ | with_reducible refine wg_lt ?_ | with_reducible refine wg_le ?_ | with_reducible refine wg_gt ?_ | with_reducible refine wg_ge ?_ | with_reducible refine wg_not ?_ | with_reducible refine wg_lenL ?_ | with_reducible refine wg_lenT ?_ | with_reducible refine wg_lenC ?_ | with_reducible refine wg_int ?_ | with_reducible refine wg_intB ?_ | with_reducible refine wg_abs ?_ | with_reducible refine wg_max2 ?_ | with_reducible refine wg_min2 ?_ | with_reducible refine wg_reprB ?_ | with_reducible refine wg_itL ?_ | with_reducible refine wg_itT ?_ | with_reducible refine wg_itC ?_ | with_reducible refine wg_itS ?_ | with_reducible refine wg_slL ?_ | with_reducible refine wg_slT ?_ | with_reducible refine wg_tupleL ?_ | with_reducible refine wg_tupleT ?_ | with_reducible refine wg_listL ?_ | with_reducible refine wg_listT ?_ | with_reducible refine wg_revL ?_ | with_reducible refine wg_revT ?_ | with_reducible refine wg_zipT ?_ | with_reducible refine wg_allM ?_ | with_reducible refine wg_anyM ?_ | with_reducible refine w_var (by with_unfolding_all rfl) ?_ | with_reducible refine wg_mul (Or.inr (by decide)) ?_ | with_reducible refine wg_mul (Or.inl (by decide)) ?_ | with_reducible refine wg_mod (by decide +kernel) ?_ | with_reducible refine wg_fdiv (by decide) ?_ | with_reducible refine wg_pow (by decide +kernel) ?_ | with_reducible refine wg_tup (by simp; done) ?_ | with_reducible refine wg_lst (by simp; done) ?_ | with_reducible refine w_dieSet (by decide) ?_ | with_reducible refine w_dieAt (by decide) (fun _ => ?_) | refine ⟨_, rfl, ?_⟩ | refine ⟨rfl, ?_⟩))
  refine (w_greatest B).imp (fun r hr => ?_) fun _ _ x => x
  subst hr
  (repeat (first | with_reducible refine ws_seq ?_ | with_reducible refine ws_asg ?_ | with_reducible refine ws_ret ?_ | with_reducible refine ws_if ?_ | with_reducible refine ws_next ?_ | with_reducible refine ws_retN ?_ | with_reducible refine ws_brk ?_ | with_reducible refine ws_cont ?_ | with_reducible refine ws_drop ?_ | with_reducible refine ws_setI ?_ | with_reducible refine ws_for ?_ | with_reducible refine ws_par ?_ | with_reducible refine ws_frz ?_ | with_reducible refine ws_parO ?_ | with_reducible refine ws_setOwn ?_ | with_reducible refine ⟨fun _ => ?_, fun z => absurd rfl z⟩ | refine And.intro rt_nx fun _ => ?_ | refine And.intro bk_nx fun _ => ?_ | refine And.intro ct_nx fun _ => ?_ | with_reducible refine w_c2 ?_ | with_reducible refine w_c1 ?_ | with_reducible refine w_cA ?_ | with_reducible refine w_cons ?_ | with_reducible refine w_nil ?_ | with_reducible refine w_c ?_ | with_reducible refine w_call ?_ | with_reducible refine w_it ?_ | with_reducible refine w_rng1 ?_ | with_reducible refine w_rng2 ?_ | with_reducible refine w_m0 ?_ | with_reducible refine w_m1 ?_ | with_reducible refine w_sl ?_ | with_reducible refine w_part ?_ | with_reducible refine w_noP ?_ | with_reducible refine w_b ?_ | with_reducible refine w_notB ?_ | with_reducible refine w_if ?_ | with_reducible refine w_chain ?_ | with_reducible refine w_zip ?_ | with_reducible refine w_enum ?_ | with_reducible refine wg_add ?_ | with_reducible refine wg_sub ?_ | with_reducible refine wg_neg ?_ | with_reducible refine wg_lt ?_ | with_reducible refine wg_le ?_ | with_reducible refine wg_gt ?_ | with_reducible refine wg_ge ?_ | with_reducible refine wg_not ?_ | with_reducible refine wg_lenL ?_ | with_reducible refine wg_lenT ?_ | with_reducible refine wg_lenC ?_ | with_reducible refine wg_int ?_ | with_reducible refine wg_intB ?_ | with_reducible refine wg_abs ?_ | with_reducible refine wg_max2 ?_ | with_reducible refine wg_min2 ?_ | with_reducible refine wg_reprB ?_ | with_reducible refine wg_itL ?_ | with_reducible refine wg_itT ?_ | with_reducible refine wg_itC ?_ | with_reducible refine wg_itS ?_ | with_reducible refine wg_slL ?_ | with_reducible refine wg_slT ?_ | with_reducible refine wg_tupleL ?_ | with_reducible refine wg_tupleT ?_ | with_reducible refine wg_listL ?_ | with_reducible refine wg_listT ?_ | with_reducible refine wg_revL ?_ | with_reducible refine wg_revT ?_ | with_reducible refine wg_zipT ?_ | with_reducible refine wg_allM ?_ | with_reducible refine wg_anyM ?_ | with_reducible refine w_var (by with_unfolding_all rfl) ?_ | with_reducible refine wg_mul (Or.inr (by decide)) ?_ | with_reducible refine wg_mul (Or.inl (by decide)) ?_ | with_reducible refine wg_mod (by decide +kernel) ?_ | with_reducible refine wg_fdiv (by decide) ?_ | with_reducible refine wg_pow (by decide +kernel) ?_ | with_reducible refine wg_tup (by simp; done) ?_ | with_reducible refine wg_lst (by simp; done) ?_ | with_reducible refine w_dieSet (by decide) ?_ | with_reducible refine w_dieAt (by decide) (fun _ => ?_) | refine ⟨_, rfl, ?_⟩ | refine ⟨rfl, ?_⟩))
  refine (w_least B).imp (fun r hr => ?_) fun _ _ x => x
  subst hr
  (repeat (first | with_reducible refine ws_seq ?_ | with_reducible refine ws_asg ?_ | with_reducible refine ws_ret ?_ | with_reducible refine ws_if ?_ | with_reducible refine ws_next ?_ | with_reducible refine ws_retN ?_ | with_reducible refine ws_brk ?_ | with_reducible refine ws_cont ?_ | with_reducible refine ws_drop ?_ | with_reducible refine ws_setI ?_ | with_reducible refine ws_for ?_ | with_reducible refine ws_par ?_ | with_reducible refine ws_frz ?_ | with_reducible refine ws_parO ?_ | with_reducible refine ws_setOwn ?_ | with_reducible refine ⟨fun _ => ?_, fun z => absurd rfl z⟩ | refine And.intro rt_nx fun _ => ?_ | refine And.intro bk_nx fun _ => ?_ | refine And.intro ct_nx fun _ => ?_ | with_reducible refine w_c2 ?_ | with_reducible refine w_c1 ?_ | with_reducible refine w_cA ?_ | with_reducible refine w_cons ?_ | with_reducible refine w_nil ?_ | with_reducible refine w_c ?_ | with_reducible refine w_call ?_ | with_reducible refine w_it ?_ | with_reducible refine w_rng1 ?_ | with_reducible refine w_rng2 ?_ | with_reducible refine w_m0 ?_ | with_reducible refine w_m1 ?_ | with_reducible refine w_sl ?_ | with_reducible refine w_part ?_ | with_reducible refine w_noP ?_ | with_reducible refine w_b ?_ | with_reducible refine w_notB ?_ | with_reducible refine w_if ?_ | with_reducible refine w_chain ?_ | with_reducible refine w_zip ?_ | with_reducible refine w_enum ?_ | with_reducible refine wg_add ?_ | with_reducible refine wg_sub ?_ | with_reducible refine wg_neg ?_ | with_reducible refine wg_lt ?_ | with_reducible refine wg_le ?_ | with_reducible refine wg_gt ?_ | with_reducible refine wg_ge ?_ | with_reducible refine wg_not ?_ | with_reducible refine wg_lenL ?_ | with_reducible refine wg_lenT ?_ | with_reducible refine wg_lenC ?_ | with_reducible refine wg_int ?_ | with_reducible refine wg_intB ?_ | with_reducible refine wg_abs ?_ | with_reducible refine wg_max2 ?_ | with_reducible refine wg_min2 ?_ | with_reducible refine wg_reprB ?_ | with_reducible refine wg_itL ?_ | with_reducible refine wg_itT ?_ | with_reducible refine wg_itC ?_ | with_reducible refine wg_itS ?_ | with_reducible refine wg_slL ?_ | with_reducible refine wg_slT ?_ | with_reducible refine wg_tupleL ?_ | with_reducible refine wg_tupleT ?_ | with_reducible refine wg_listL ?_ | with_reducible refine wg_listT ?_ | with_reducible refine wg_revL ?_ | with_reducible refine wg_revT ?_ | with_reducible refine wg_zipT ?_ | with_reducible refine wg_allM ?_ | with_reducible refine wg_anyM ?_ | with_reducible refine w_var (by with_unfolding_all rfl) ?_ | with_reducible refine wg_mul (Or.inr (by decide)) ?_ | with_reducible refine wg_mul (Or.inl (by decide)) ?_ | with_reducible refine wg_mod (by decide +kernel) ?_ | with_reducible refine wg_fdiv (by decide) ?_ | with_reducible refine wg_pow (by decide +kernel) ?_ | with_reducible refine wg_tup (by simp; done) ?_ | with_reducible refine wg_lst (by simp; done) ?_ | with_reducible refine w_dieSet (by decide) ?_ | with_reducible refine w_dieAt (by decide) (fun _ => ?_) | refine ⟨_, rfl, ?_⟩ | refine ⟨rfl, ?_⟩))
  refine ⟨_, _, rfl, ?_⟩
  (repeat (first | with_reducible refine ws_seq ?_ | with_reducible refine ws_asg ?_ | with_reducible refine ws_ret ?_ | with_reducible refine ws_if ?_ | with_reducible refine ws_next ?_ | with_reducible refine ws_retN ?_ | with_reducible refine ws_brk ?_ | with_reducible refine ws_cont ?_ | with_reducible refine ws_drop ?_ | with_reducible refine ws_setI ?_ | with_reducible refine ws_for ?_ | with_reducible refine ws_par ?_ | with_reducible refine ws_frz ?_ | with_reducible refine ws_parO ?_ | with_reducible refine ws_setOwn ?_ | with_reducible refine ⟨fun _ => ?_, fun z => absurd rfl z⟩ | refine And.intro rt_nx fun _ => ?_ | refine And.intro bk_nx fun _ => ?_ | refine And.intro ct_nx fun _ => ?_ | with_reducible refine w_c2 ?_ | with_reducible refine w_c1 ?_ | with_reducible refine w_cA ?_ | with_reducible refine w_cons ?_ | with_reducible refine w_nil ?_ | with_reducible refine w_c ?_ | with_reducible refine w_call ?_ | with_reducible refine w_it ?_ | with_reducible refine w_rng1 ?_ | with_reducible refine w_rng2 ?_ | with_reducible refine w_m0 ?_ | with_reducible refine w_m1 ?_ | with_reducible refine w_sl ?_ | with_reducible refine w_part ?_ | with_reducible refine w_noP ?_ | with_reducible refine w_b ?_ | with_reducible refine w_notB ?_ | with_reducible refine w_if ?_ | with_reducible refine w_chain ?_ | with_reducible refine w_zip ?_ | with_reducible refine w_enum ?_ | with_reducible refine wg_add ?_ | with_reducible refine wg_sub ?_ | with_reducible refine wg_neg ?_ | with_reducible refine wg_lt ?_ | with_reducible refine wg_le ?_ | with_reducible refine wg_gt ?_ | with_reducible refine wg_ge ?_ | with_reducible refine wg_not ?_ | with_reducible refine wg_lenL ?_ | with_reducible refine wg_lenT ?_ | with_reducible refine wg_lenC ?_ | with_reducible refine wg_int ?_ | with_reducible refine wg_intB ?_ | with_reducible refine wg_abs ?_ | with_reducible refine wg_max2 ?_ | with_reducible refine wg_min2 ?_ | with_reducible refine wg_reprB ?_ | with_reducible refine wg_itL ?_ | with_reducible refine wg_itT ?_ | with_reducible refine wg_itC ?_ | with_reducible refine wg_itS ?_ | with_reducible refine wg_slL ?_ | with_reducible refine wg_slT ?_ | with_reducible refine wg_tupleL ?_ | with_reducible refine wg_tupleT ?_ | with_reducible refine wg_listL ?_ | with_reducible refine wg_listT ?_ | with_reducible refine wg_revL ?_ | with_reducible refine wg_revT ?_ | with_reducible refine wg_zipT ?_ | with_reducible refine wg_allM ?_ | with_reducible refine wg_anyM ?_ | with_reducible refine w_var (by with_unfolding_all rfl) ?_ | with_reducible refine wg_mul (Or.inr (by decide)) ?_ | with_reducible refine wg_mul (Or.inl (by decide)) ?_ | with_reducible refine wg_mod (by decide +kernel) ?_ | with_reducible refine wg_fdiv (by decide) ?_ | with_reducible refine wg_pow (by decide +kernel) ?_ | with_reducible refine wg_tup (by simp; done) ?_ | with_reducible refine wg_lst (by simp; done) ?_ | with_reducible refine w_dieSet (by decide) ?_ | with_reducible refine w_dieAt (by decide) (fun _ => ?_) | refine ⟨_, rfl, ?_⟩ | refine ⟨rfl, ?_⟩))
  refine ws_forL (J := fun ds ρ => (∀ d ∈ ds, ∃ T, d = D.tup (tupsI T) ∧ Told k S T) ∧ Bs n k S ρ) ?_ ?_ _ _ ⟨?_, ⟨rfl, rfl, rfl, rfl, rfl, rfl⟩⟩
  · rintro d ds ρ ⟨hds, b⟩
    obtain ⟨T, rfl, hT⟩ := hds d List.mem_cons_self
    refine ⟨_, rfl, ?_⟩
    have e3 := b.at (i := 3) (Sl.val (.tup (tupsI T))) (by decide)
    have b := b.set (i := 3) (Sl.val (.tup (tupsI T))) (by decide)
    revert e3 b
    generalize ρ.set 3 (Sl.val (.tup (tupsI T))) = ρ
    intro e3 b
    have tfew := hT.bags.few
    have tlen := tups_len T
    (repeat (first | with_reducible refine ws_seq ?_ | with_reducible refine ws_asg ?_ | with_reducible refine ws_ret ?_ | with_reducible refine ws_if ?_ | with_reducible refine ws_next ?_ | with_reducible refine ws_retN ?_ | with_reducible refine ws_brk ?_ | with_reducible refine ws_cont ?_ | with_reducible refine ws_drop ?_ | with_reducible refine ws_setI ?_ | with_reducible refine ws_for ?_ | with_reducible refine ws_par ?_ | with_reducible refine ws_frz ?_ | with_reducible refine ws_parO ?_ | with_reducible refine ws_setOwn ?_ | with_reducible refine ⟨fun _ => ?_, fun z => absurd rfl z⟩ | refine And.intro rt_nx fun _ => ?_ | refine And.intro bk_nx fun _ => ?_ | refine And.intro ct_nx fun _ => ?_ | with_reducible refine w_c2 ?_ | with_reducible refine w_c1 ?_ | with_reducible refine w_cA ?_ | with_reducible refine w_cons ?_ | with_reducible refine w_nil ?_ | with_reducible refine w_c ?_ | with_reducible refine w_call ?_ | with_reducible refine w_it ?_ | with_reducible refine w_rng1 ?_ | with_reducible refine w_rng2 ?_ | with_reducible refine w_m0 ?_ | with_reducible refine w_m1 ?_ | with_reducible refine w_sl ?_ | with_reducible refine w_part ?_ | with_reducible refine w_noP ?_ | with_reducible refine w_b ?_ | with_reducible refine w_notB ?_ | with_reducible refine w_if ?_ | with_reducible refine w_chain ?_ | with_reducible refine w_zip ?_ | with_reducible refine w_enum ?_ | with_reducible refine wg_add ?_ | with_reducible refine wg_sub ?_ | with_reducible refine wg_neg ?_ | with_reducible refine wg_lt ?_ | with_reducible refine wg_le ?_ | with_reducible refine wg_gt ?_ | with_reducible refine wg_ge ?_ | with_reducible refine wg_not ?_ | with_reducible refine wg_lenL ?_ | with_reducible refine wg_lenT ?_ | with_reducible refine wg_lenC ?_ | with_reducible refine wg_int ?_ | with_reducible refine wg_intB ?_ | with_reducible refine wg_abs ?_ | with_reducible refine wg_max2 ?_ | with_reducible refine wg_min2 ?_ | with_reducible refine wg_reprB ?_ | with_reducible refine wg_itL ?_ | with_reducible refine wg_itT ?_ | with_reducible refine wg_itC ?_ | with_reducible refine wg_itS ?_ | with_reducible refine wg_slL ?_ | with_reducible refine wg_slT ?_ | with_reducible refine wg_tupleL ?_ | with_reducible refine wg_tupleT ?_ | with_reducible refine wg_listL ?_ | with_reducible refine wg_listT ?_ | with_reducible refine wg_revL ?_ | with_reducible refine wg_revT ?_ | with_reducible refine wg_zipT ?_ | with_reducible refine wg_allM ?_ | with_reducible refine wg_anyM ?_ | with_reducible refine w_var (by with_unfolding_all rfl) ?_ | with_reducible refine wg_mul (Or.inr (by decide)) ?_ | with_reducible refine wg_mul (Or.inl (by decide)) ?_ | with_reducible refine wg_mod (by decide +kernel) ?_ | with_reducible refine wg_fdiv (by decide) ?_ | with_reducible refine wg_pow (by decide +kernel) ?_ | with_reducible refine wg_tup (by simp; done) ?_ | with_reducible refine wg_lst (by simp; done) ?_ | with_reducible refine w_dieSet (by decide) ?_ | with_reducible refine w_dieAt (by decide) (fun _ => ?_) | refine ⟨_, rfl, ?_⟩ | refine ⟨rfl, ?_⟩))
    refine w_var e3 ?_
    (repeat (first | with_reducible refine ws_seq ?_ | with_reducible refine ws_asg ?_ | with_reducible refine ws_ret ?_ | with_reducible refine ws_if ?_ | with_reducible refine ws_next ?_ | with_reducible refine ws_retN ?_ | with_reducible refine ws_brk ?_ | with_reducible refine ws_cont ?_ | with_reducible refine ws_drop ?_ | with_reducible refine ws_setI ?_ | with_reducible refine ws_for ?_ | with_reducible refine ws_par ?_ | with_reducible refine ws_frz ?_ | with_reducible refine ws_parO ?_ | with_reducible refine ws_setOwn ?_ | with_reducible refine ⟨fun _ => ?_, fun z => absurd rfl z⟩ | refine And.intro rt_nx fun _ => ?_ | refine And.intro bk_nx fun _ => ?_ | refine And.intro ct_nx fun _ => ?_ | with_reducible refine w_c2 ?_ | with_reducible refine w_c1 ?_ | with_reducible refine w_cA ?_ | with_reducible refine w_cons ?_ | with_reducible refine w_nil ?_ | with_reducible refine w_c ?_ | with_reducible refine w_call ?_ | with_reducible refine w_it ?_ | with_reducible refine w_rng1 ?_ | with_reducible refine w_rng2 ?_ | with_reducible refine w_m0 ?_ | with_reducible refine w_m1 ?_ | with_reducible refine w_sl ?_ | with_reducible refine w_part ?_ | with_reducible refine w_noP ?_ | with_reducible refine w_b ?_ | with_reducible refine w_notB ?_ | with_reducible refine w_if ?_ | with_reducible refine w_chain ?_ | with_reducible refine w_zip ?_ | with_reducible refine w_enum ?_ | with_reducible refine wg_add ?_ | with_reducible refine wg_sub ?_ | with_reducible refine wg_neg ?_ | with_reducible refine wg_lt ?_ | with_reducible refine wg_le ?_ | with_reducible refine wg_gt ?_ | with_reducible refine wg_ge ?_ | with_reducible refine wg_not ?_ | with_reducible refine wg_lenL ?_ | with_reducible refine wg_lenT ?_ | with_reducible refine wg_lenC ?_ | with_reducible refine wg_int ?_ | with_reducible refine wg_intB ?_ | with_reducible refine wg_abs ?_ | with_reducible refine wg_max2 ?_ | with_reducible refine wg_min2 ?_ | with_reducible refine wg_reprB ?_ | with_reducible refine wg_itL ?_ | with_reducible refine wg_itT ?_ | with_reducible refine wg_itC ?_ | with_reducible refine wg_itS ?_ | with_reducible refine wg_slL ?_ | with_reducible refine wg_slT ?_ | with_reducible refine wg_tupleL ?_ | with_reducible refine wg_tupleT ?_ | with_reducible refine wg_listL ?_ | with_reducible refine wg_listT ?_ | with_reducible refine wg_revL ?_ | with_reducible refine wg_revT ?_ | with_reducible refine wg_zipT ?_ | with_reducible refine wg_allM ?_ | with_reducible refine wg_anyM ?_ | with_reducible refine w_var (by with_unfolding_all rfl) ?_ | with_reducible refine wg_mul (Or.inr (by decide)) ?_ | with_reducible refine wg_mul (Or.inl (by decide)) ?_ | with_reducible refine wg_mod (by decide +kernel) ?_ | with_reducible refine wg_fdiv (by decide) ?_ | with_reducible refine wg_pow (by decide +kernel) ?_ | with_reducible refine wg_tup (by simp; done) ?_ | with_reducible refine wg_lst (by simp; done) ?_ | with_reducible refine w_dieSet (by decide) ?_ | with_reducible refine w_dieAt (by decide) (fun _ => ?_) | refine ⟨_, rfl, ?_⟩ | refine ⟨rfl, ?_⟩))
    refine w_var e3 (wg_sortT hT.bags ?_)
    refine wg_ne (eqD_lst _ _) ?_
    rw [sortS_asc hT.asc, decide_eq_true rfl]
    refine ⟨_, rfl, fun h => (nomatch h), fun _ => ?_⟩
    (repeat (first | with_reducible refine ws_seq ?_ | with_reducible refine ws_asg ?_ | with_reducible refine ws_ret ?_ | with_reducible refine ws_if ?_ | with_reducible refine ws_next ?_ | with_reducible refine ws_retN ?_ | with_reducible refine ws_brk ?_ | with_reducible refine ws_cont ?_ | with_reducible refine ws_drop ?_ | with_reducible refine ws_setI ?_ | with_reducible refine ws_for ?_ | with_reducible refine ws_par ?_ | with_reducible refine ws_frz ?_ | with_reducible refine ws_parO ?_ | with_reducible refine ws_setOwn ?_ | with_reducible refine ⟨fun _ => ?_, fun z => absurd rfl z⟩ | refine And.intro rt_nx fun _ => ?_ | refine And.intro bk_nx fun _ => ?_ | refine And.intro ct_nx fun _ => ?_ | with_reducible refine w_c2 ?_ | with_reducible refine w_c1 ?_ | with_reducible refine w_cA ?_ | with_reducible refine w_cons ?_ | with_reducible refine w_nil ?_ | with_reducible refine w_c ?_ | with_reducible refine w_call ?_ | with_reducible refine w_it ?_ | with_reducible refine w_rng1 ?_ | with_reducible refine w_rng2 ?_ | with_reducible refine w_m0 ?_ | with_reducible refine w_m1 ?_ | with_reducible refine w_sl ?_ | with_reducible refine w_part ?_ | with_reducible refine w_noP ?_ | with_reducible refine w_b ?_ | with_reducible refine w_notB ?_ | with_reducible refine w_if ?_ | with_reducible refine w_chain ?_ | with_reducible refine w_zip ?_ | with_reducible refine w_enum ?_ | with_reducible refine wg_add ?_ | with_reducible refine wg_sub ?_ | with_reducible refine wg_neg ?_ | with_reducible refine wg_lt ?_ | with_reducible refine wg_le ?_ | with_reducible refine wg_gt ?_ | with_reducible refine wg_ge ?_ | with_reducible refine wg_not ?_ | with_reducible refine wg_lenL ?_ | with_reducible refine wg_lenT ?_ | with_reducible refine wg_lenC ?_ | with_reducible refine wg_int ?_ | with_reducible refine wg_intB ?_ | with_reducible refine wg_abs ?_ | with_reducible refine wg_max2 ?_ | with_reducible refine wg_min2 ?_ | with_reducible refine wg_reprB ?_ | with_reducible refine wg_itL ?_ | with_reducible refine wg_itT ?_ | with_reducible refine wg_itC ?_ | with_reducible refine wg_itS ?_ | with_reducible refine wg_slL ?_ | with_reducible refine wg_slT ?_ | with_reducible refine wg_tupleL ?_ | with_reducible refine wg_tupleT ?_ | with_reducible refine wg_listL ?_ | with_reducible refine wg_listT ?_ | with_reducible refine wg_revL ?_ | with_reducible refine wg_revT ?_ | with_reducible refine wg_zipT ?_ | with_reducible refine wg_allM ?_ | with_reducible refine wg_anyM ?_ | with_reducible refine w_var (by with_unfolding_all rfl) ?_ | with_reducible refine wg_mul (Or.inr (by decide)) ?_ | with_reducible refine wg_mul (Or.inl (by decide)) ?_ | with_reducible refine wg_mod (by decide +kernel) ?_ | with_reducible refine wg_fdiv (by decide) ?_ | with_reducible refine wg_pow (by decide +kernel) ?_ | with_reducible refine wg_tup (by simp; done) ?_ | with_reducible refine wg_lst (by simp; done) ?_ | with_reducible refine w_dieSet (by decide) ?_ | with_reducible refine w_dieAt (by decide) (fun _ => ?_) | refine ⟨_, rfl, ?_⟩ | refine ⟨rfl, ?_⟩))
    refine w_compF (fun d => !decide (unD d ∈ S)) id ?_
    refine w_it (w_var e3 (wg_itT ⟨by omega, fun d hd => ⟨_, rfl, ?_⟩, ?_⟩))
    · obtain ⟨x, rfl, hx⟩ := tups_mem hd
      have bw : Bs n k S ((wipeE ρ [4]).set 4 (Sl.val (bagD x))) := (b.set (i := 4) Sl.un (by decide)).set (i := 4) _ (by decide)
      have ew : ((wipeE ρ [4]).set 4 (Sl.val (bagD x)))[4]? = some (Sl.val (bagD x)) := (b.set (i := 4) Sl.un (by decide)).at _ (by decide)
      (repeat (first | with_reducible refine ws_seq ?_ | with_reducible refine ws_asg ?_ | with_reducible refine ws_ret ?_ | with_reducible refine ws_if ?_ | with_reducible refine ws_next ?_ | with_reducible refine ws_retN ?_ | with_reducible refine ws_brk ?_ | with_reducible refine ws_cont ?_ | with_reducible refine ws_drop ?_ | with_reducible refine ws_setI ?_ | with_reducible refine ws_for ?_ | with_reducible refine ws_par ?_ | with_reducible refine ws_frz ?_ | with_reducible refine ws_parO ?_ | with_reducible refine ws_setOwn ?_ | with_reducible refine ⟨fun _ => ?_, fun z => absurd rfl z⟩ | refine And.intro rt_nx fun _ => ?_ | refine And.intro bk_nx fun _ => ?_ | refine And.intro ct_nx fun _ => ?_ | with_reducible refine w_c2 ?_ | with_reducible refine w_c1 ?_ | with_reducible refine w_cA ?_ | with_reducible refine w_cons ?_ | with_reducible refine w_nil ?_ | with_reducible refine w_c ?_ | with_reducible refine w_call ?_ | with_reducible refine w_it ?_ | with_reducible refine w_rng1 ?_ | with_reducible refine w_rng2 ?_ | with_reducible refine w_m0 ?_ | with_reducible refine w_m1 ?_ | with_reducible refine w_sl ?_ | with_reducible refine w_part ?_ | with_reducible refine w_noP ?_ | with_reducible refine w_b ?_ | with_reducible refine w_notB ?_ | with_reducible refine w_if ?_ | with_reducible refine w_chain ?_ | with_reducible refine w_zip ?_ | with_reducible refine w_enum ?_ | with_reducible refine wg_add ?_ | with_reducible refine wg_sub ?_ | with_reducible refine wg_neg ?_ | with_reducible refine wg_lt ?_ | with_reducible refine wg_le ?_ | with_reducible refine wg_gt ?_ | with_reducible refine wg_ge ?_ | with_reducible refine wg_not ?_ | with_reducible refine wg_lenL ?_ | with_reducible refine wg_lenT ?_ | with_reducible refine wg_lenC ?_ | with_reducible refine wg_int ?_ | with_reducible refine wg_intB ?_ | with_reducible refine wg_abs ?_ | with_reducible refine wg_max2 ?_ | with_reducible refine wg_min2 ?_ | with_reducible refine wg_reprB ?_ | with_reducible refine wg_itL ?_ | with_reducible refine wg_itT ?_ | with_reducible refine wg_itC ?_ | with_reducible refine wg_itS ?_ | with_reducible refine wg_slL ?_ | with_reducible refine wg_slT ?_ | with_reducible refine wg_tupleL ?_ | with_reducible refine wg_tupleT ?_ | with_reducible refine wg_listL ?_ | with_reducible refine wg_listT ?_ | with_reducible refine wg_revL ?_ | with_reducible refine wg_revT ?_ | with_reducible refine wg_zipT ?_ | with_reducible refine wg_allM ?_ | with_reducible refine wg_anyM ?_ | with_reducible refine w_var (by with_unfolding_all rfl) ?_ | with_reducible refine wg_mul (Or.inr (by decide)) ?_ | with_reducible refine wg_mul (Or.inl (by decide)) ?_ | with_reducible refine wg_mod (by decide +kernel) ?_ | with_reducible refine wg_fdiv (by decide) ?_ | with_reducible refine wg_pow (by decide +kernel) ?_ | with_reducible refine wg_tup (by simp; done) ?_ | with_reducible refine wg_lst (by simp; done) ?_ | with_reducible refine w_dieSet (by decide) ?_ | with_reducible refine w_dieAt (by decide) (fun _ => ?_) | refine ⟨_, rfl, ?_⟩ | refine ⟨rfl, ?_⟩))
      refine w_var ew (w_var bw.v2 (wg_notin (inD_tup x S) ⟨_, rfl, ?_, fun _ => w_var ew rfl⟩))
      rw [unD_bag]
    · have f : ((tupsI T).filter fun d => !decide (unD d ∈ S)) = [] := by
        rw [List.filter_eq_nil_iff]
        intro d hd
        obtain ⟨x, rfl, hx⟩ := tups_mem hd
        rw [unD_bag, decide_eq_true (hT.sub x hx)]
        decide
      rw [f]
      (repeat (first | with_reducible refine ws_seq ?_ | with_reducible refine ws_asg ?_ | with_reducible refine ws_ret ?_ | with_reducible refine ws_if ?_ | with_reducible refine ws_next ?_ | with_reducible refine ws_retN ?_ | with_reducible refine ws_brk ?_ | with_reducible refine ws_cont ?_ | with_reducible refine ws_drop ?_ | with_reducible refine ws_setI ?_ | with_reducible refine ws_for ?_ | with_reducible refine ws_par ?_ | with_reducible refine ws_frz ?_ | with_reducible refine ws_parO ?_ | with_reducible refine ws_setOwn ?_ | with_reducible refine ⟨fun _ => ?_, fun z => absurd rfl z⟩ | refine And.intro rt_nx fun _ => ?_ | refine And.intro bk_nx fun _ => ?_ | refine And.intro ct_nx fun _ => ?_ | with_reducible refine w_c2 ?_ | with_reducible refine w_c1 ?_ | with_reducible refine w_cA ?_ | with_reducible refine w_cons ?_ | with_reducible refine w_nil ?_ | with_reducible refine w_c ?_ | with_reducible refine w_call ?_ | with_reducible refine w_it ?_ | with_reducible refine w_rng1 ?_ | with_reducible refine w_rng2 ?_ | with_reducible refine w_m0 ?_ | with_reducible refine w_m1 ?_ | with_reducible refine w_sl ?_ | with_reducible refine w_part ?_ | with_reducible refine w_noP ?_ | with_reducible refine w_b ?_ | with_reducible refine w_notB ?_ | with_reducible refine w_if ?_ | with_reducible refine w_chain ?_ | with_reducible refine w_zip ?_ | with_reducible refine w_enum ?_ | with_reducible refine wg_add ?_ | with_reducible refine wg_sub ?_ | with_reducible refine wg_neg ?_ | with_reducible refine wg_lt ?_ | with_reducible refine wg_le ?_ | with_reducible refine wg_gt ?_ | with_reducible refine wg_ge ?_ | with_reducible refine wg_not ?_ | with_reducible refine wg_lenL ?_ | with_reducible refine wg_lenT ?_ | with_reducible refine wg_lenC ?_ | with_reducible refine wg_int ?_ | with_reducible refine wg_intB ?_ | with_reducible refine wg_abs ?_ | with_reducible refine wg_max2 ?_ | with_reducible refine wg_min2 ?_ | with_reducible refine wg_reprB ?_ | with_reducible refine wg_itL ?_ | with_reducible refine wg_itT ?_ | with_reducible refine wg_itC ?_ | with_reducible refine wg_itS ?_ | with_reducible refine wg_slL ?_ | with_reducible refine wg_slT ?_ | with_reducible refine wg_tupleL ?_ | with_reducible refine wg_tupleT ?_ | with_reducible refine wg_listL ?_ | with_reducible refine wg_listT ?_ | with_reducible refine wg_revL ?_ | with_reducible refine wg_revT ?_ | with_reducible refine wg_zipT ?_ | with_reducible refine wg_allM ?_ | with_reducible refine wg_anyM ?_ | with_reducible refine w_var (by with_unfolding_all rfl) ?_ | with_reducible refine wg_mul (Or.inr (by decide)) ?_ | with_reducible refine wg_mul (Or.inl (by decide)) ?_ | with_reducible refine wg_mod (by decide +kernel) ?_ | with_reducible refine wg_fdiv (by decide) ?_ | with_reducible refine wg_pow (by decide +kernel) ?_ | with_reducible refine wg_tup (by simp; done) ?_ | with_reducible refine wg_lst (by simp; done) ?_ | with_reducible refine w_dieSet (by decide) ?_ | with_reducible refine w_dieAt (by decide) (fun _ => ?_) | refine ⟨_, rfl, ?_⟩ | refine ⟨rfl, ?_⟩))
      refine wg_ne (b := true) (eqD_lst [] []) ⟨_, rfl, fun h => (nomatch h), fun _ => ?_⟩
      (repeat (first | with_reducible refine ws_seq ?_ | with_reducible refine ws_asg ?_ | with_reducible refine ws_ret ?_ | with_reducible refine ws_if ?_ | with_reducible refine ws_next ?_ | with_reducible refine ws_retN ?_ | with_reducible refine ws_brk ?_ | with_reducible refine ws_cont ?_ | with_reducible refine ws_drop ?_ | with_reducible refine ws_setI ?_ | with_reducible refine ws_for ?_ | with_reducible refine ws_par ?_ | with_reducible refine ws_frz ?_ | with_reducible refine ws_parO ?_ | with_reducible refine ws_setOwn ?_ | with_reducible refine ⟨fun _ => ?_, fun z => absurd rfl z⟩ | refine And.intro rt_nx fun _ => ?_ | refine And.intro bk_nx fun _ => ?_ | refine And.intro ct_nx fun _ => ?_ | with_reducible refine w_c2 ?_ | with_reducible refine w_c1 ?_ | with_reducible refine w_cA ?_ | with_reducible refine w_cons ?_ | with_reducible refine w_nil ?_ | with_reducible refine w_c ?_ | with_reducible refine w_call ?_ | with_reducible refine w_it ?_ | with_reducible refine w_rng1 ?_ | with_reducible refine w_rng2 ?_ | with_reducible refine w_m0 ?_ | with_reducible refine w_m1 ?_ | with_reducible refine w_sl ?_ | with_reducible refine w_part ?_ | with_reducible refine w_noP ?_ | with_reducible refine w_b ?_ | with_reducible refine w_notB ?_ | with_reducible refine w_if ?_ | with_reducible refine w_chain ?_ | with_reducible refine w_zip ?_ | with_reducible refine w_enum ?_ | with_reducible refine wg_add ?_ | with_reducible refine wg_sub ?_ | with_reducible refine wg_neg ?_ | with_reducible refine wg_lt ?_ | with_reducible refine wg_le ?_ | with_reducible refine wg_gt ?_ | with_reducible refine wg_ge ?_ | with_reducible refine wg_not ?_ | with_reducible refine wg_lenL ?_ | with_reducible refine wg_lenT ?_ | with_reducible refine wg_lenC ?_ | with_reducible refine wg_int ?_ | with_reducible refine wg_intB ?_ | with_reducible refine wg_abs ?_ | with_reducible refine wg_max2 ?_ | with_reducible refine wg_min2 ?_ | with_reducible refine wg_reprB ?_ | with_reducible refine wg_itL ?_ | with_reducible refine wg_itT ?_ | with_reducible refine wg_itC ?_ | with_reducible refine wg_itS ?_ | with_reducible refine wg_slL ?_ | with_reducible refine wg_slT ?_ | with_reducible refine wg_tupleL ?_ | with_reducible refine wg_tupleT ?_ | with_reducible refine wg_listL ?_ | with_reducible refine wg_listT ?_ | with_reducible refine wg_revL ?_ | with_reducible refine wg_revT ?_ | with_reducible refine wg_zipT ?_ | with_reducible refine wg_allM ?_ | with_reducible refine wg_anyM ?_ | with_reducible refine w_var (by with_unfolding_all rfl) ?_ | with_reducible refine wg_mul (Or.inr (by decide)) ?_ | with_reducible refine wg_mul (Or.inl (by decide)) ?_ | with_reducible refine wg_mod (by decide +kernel) ?_ | with_reducible refine wg_fdiv (by decide) ?_ | with_reducible refine wg_pow (by decide +kernel) ?_ | with_reducible refine wg_tup (by simp; done) ?_ | with_reducible refine wg_lst (by simp; done) ?_ | with_reducible refine w_dieSet (by decide) ?_ | with_reducible refine w_dieAt (by decide) (fun _ => ?_) | refine ⟨_, rfl, ?_⟩ | refine ⟨rfl, ?_⟩))
      refine w_var e3 (wg_itT ?_)
      refine ws_forL (J := fun es ρ => (∀ d ∈ es, ∃ x, d = bagD x ∧ x ∈ T) ∧ Bs n k S ρ ∧ ρ[3]? = some (.val (.tup (tupsI T)))) ?_ ?_ _ _ ⟨fun d hd => tups_mem hd, b, e3⟩
      · rintro d es ρ ⟨hes, b, e3⟩
        obtain ⟨x, rfl, hx⟩ := hes d List.mem_cons_self
        refine ⟨_, rfl, ?_⟩
        have e4 := b.at (i := 4) (Sl.val (bagD x)) (by decide)
        have e3 : (ρ.set 4 (Sl.val (bagD x)))[3]? = some (.val (.tup (tupsI T))) := by rw [List.getElem?_set_ne (by decide)]; exact e3
        have b := b.set (i := 4) (Sl.val (bagD x)) (by decide)
        revert e4 e3 b
        generalize ρ.set 4 (Sl.val (bagD x)) = ρ
        intro e4 e3 b
        refine ws_seq (ws_asg ?_)
        refine w_compF (fun d => !decide (unD d = x)) id ?_
        refine w_it (w_var e3 (wg_itT ⟨by omega, fun d hd => ⟨_, rfl, ?_⟩, ?_⟩))
        · obtain ⟨y, rfl, hy⟩ := tups_mem hd
          have ew : ((wipeE ρ [11]).set 11 (Sl.val (bagD y)))[11]? = some (Sl.val (bagD y)) := (b.set (i := 11) Sl.un (by decide)).at _ (by decide)
          have e4w : ((wipeE ρ [11]).set 11 (Sl.val (bagD y)))[4]? = some (Sl.val (bagD x)) := by
            rw [List.getElem?_set_ne (by decide)]
            show (ρ.set 11 Sl.un)[4]? = _
            rw [List.getElem?_set_ne (by decide)]
            exact e4
          (repeat (first | with_reducible refine ws_seq ?_ | with_reducible refine ws_asg ?_ | with_reducible refine ws_ret ?_ | with_reducible refine ws_if ?_ | with_reducible refine ws_next ?_ | with_reducible refine ws_retN ?_ | with_reducible refine ws_brk ?_ | with_reducible refine ws_cont ?_ | with_reducible refine ws_drop ?_ | with_reducible refine ws_setI ?_ | with_reducible refine ws_for ?_ | with_reducible refine ws_par ?_ | with_reducible refine ws_frz ?_ | with_reducible refine ws_parO ?_ | with_reducible refine ws_setOwn ?_ | with_reducible refine ⟨fun _ => ?_, fun z => absurd rfl z⟩ | refine And.intro rt_nx fun _ => ?_ | refine And.intro bk_nx fun _ => ?_ | refine And.intro ct_nx fun _ => ?_ | with_reducible refine w_c2 ?_ | with_reducible refine w_c1 ?_ | with_reducible refine w_cA ?_ | with_reducible refine w_cons ?_ | with_reducible refine w_nil ?_ | with_reducible refine w_c ?_ | with_reducible refine w_call ?_ | with_reducible refine w_it ?_ | with_reducible refine w_rng1 ?_ | with_reducible refine w_rng2 ?_ | with_reducible refine w_m0 ?_ | with_reducible refine w_m1 ?_ | with_reducible refine w_sl ?_ | with_reducible refine w_part ?_ | with_reducible refine w_noP ?_ | with_reducible refine w_b ?_ | with_reducible refine w_notB ?_ | with_reducible refine w_if ?_ | with_reducible refine w_chain ?_ | with_reducible refine w_zip ?_ | with_reducible refine w_enum ?_ | with_reducible refine wg_add ?_ | with_reducible refine wg_sub ?_ | with_reducible refine wg_neg ?_ | with_reducible refine wg_lt ?_ | with_reducible refine wg_le ?_ | with_reducible refine wg_gt ?_ | with_reducible refine wg_ge ?_ | with_reducible refine wg_not ?_ | with_reducible refine wg_lenL ?_ | with_reducible refine wg_lenT ?_ | with_reducible refine wg_lenC ?_ | with_reducible refine wg_int ?_ | with_reducible refine wg_intB ?_ | with_reducible refine wg_abs ?_ | with_reducible refine wg_max2 ?_ | with_reducible refine wg_min2 ?_ | with_reducible refine wg_reprB ?_ | with_reducible refine wg_itL ?_ | with_reducible refine wg_itT ?_ | with_reducible refine wg_itC ?_ | with_reducible refine wg_itS ?_ | with_reducible refine wg_slL ?_ | with_reducible refine wg_slT ?_ | with_reducible refine wg_tupleL ?_ | with_reducible refine wg_tupleT ?_ | with_reducible refine wg_listL ?_ | with_reducible refine wg_listT ?_ | with_reducible refine wg_revL ?_ | with_reducible refine wg_revT ?_ | with_reducible refine wg_zipT ?_ | with_reducible refine wg_allM ?_ | with_reducible refine wg_anyM ?_ | with_reducible refine w_var (by with_unfolding_all rfl) ?_ | with_reducible refine wg_mul (Or.inr (by decide)) ?_ | with_reducible refine wg_mul (Or.inl (by decide)) ?_ | with_reducible refine wg_mod (by decide +kernel) ?_ | with_reducible refine wg_fdiv (by decide) ?_ | with_reducible refine wg_pow (by decide +kernel) ?_ | with_reducible refine wg_tup (by simp; done) ?_ | with_reducible refine wg_lst (by simp; done) ?_ | with_reducible refine w_dieSet (by decide) ?_ | with_reducible refine w_dieAt (by decide) (fun _ => ?_) | refine ⟨_, rfl, ?_⟩ | refine ⟨rfl, ?_⟩))
          refine w_var ew (w_var e4w (wg_ne (eqD_bag y x) ⟨_, rfl, ?_, fun _ => w_var ew rfl⟩))
          rw [unD_bag]
        rw [List.map_id, tups_filter (fun y => !decide (y = x))]
        refine ⟨_, rfl, fun _ => ?_, fun z => absurd rfl z⟩
        have e10 := b.at (i := 10) (Sl.val (.lst (tupsI (T.filter fun y => !decide (y = x))))) (by decide)
        have e4 : (ρ.set 10 (Sl.val (.lst (tupsI (T.filter fun y => !decide (y = x))))))[4]? = some (.val (bagD x)) := by rw [List.getElem?_set_ne (by decide)]; exact e4
        have e3 : (ρ.set 10 (Sl.val (.lst (tupsI (T.filter fun y => !decide (y = x))))))[3]? = some (.val (.tup (tupsI T))) := by rw [List.getElem?_set_ne (by decide)]; exact e3
        have b := b.set (i := 10) (Sl.val (.lst (tupsI (T.filter fun y => !decide (y = x))))) (by decide)
        revert e10 e4 e3 b
        generalize ρ.set 10 (Sl.val (.lst (tupsI (T.filter fun y => !decide (y = x))))) = ρ
        intro e10 e4 e3 b
        have BF : Bags k (T.filter fun y => !decide (y = x)) := hT.bags.sub (List.length_filter_le _ _) fun y h => (List.mem_filter.mp h).1
        refine ws_if (w_b (w_c2 ?_))
        refine w_filt (i := 10) (j := 4) (v := 11) true BF (hT.bags.w hx) (hT.bags.len x hx) _ (.inl rfl) e10 e4 (by rw [b.len]; decide) (by decide) ?_
        have f : ((T.filter fun y => !decide (y = x)).filter fun y => if true = true then within x y else within y x) = [] := by
          rw [List.filter_eq_nil_iff]
          intro y hy
          obtain ⟨hy, ne⟩ := List.mem_filter.mp hy
          rw [if_pos rfl]
          intro w
          rw [hT.free x hx y hy w, decide_eq_true rfl] at ne
          cases ne
        rw [f]
        (repeat (first | with_reducible refine ws_seq ?_ | with_reducible refine ws_asg ?_ | with_reducible refine ws_ret ?_ | with_reducible refine ws_if ?_ | with_reducible refine ws_next ?_ | with_reducible refine ws_retN ?_ | with_reducible refine ws_brk ?_ | with_reducible refine ws_cont ?_ | with_reducible refine ws_drop ?_ | with_reducible refine ws_setI ?_ | with_reducible refine ws_for ?_ | with_reducible refine ws_par ?_ | with_reducible refine ws_frz ?_ | with_reducible refine ws_parO ?_ | with_reducible refine ws_setOwn ?_ | with_reducible refine ⟨fun _ => ?_, fun z => absurd rfl z⟩ | refine And.intro rt_nx fun _ => ?_ | refine And.intro bk_nx fun _ => ?_ | refine And.intro ct_nx fun _ => ?_ | with_reducible refine w_c2 ?_ | with_reducible refine w_c1 ?_ | with_reducible refine w_cA ?_ | with_reducible refine w_cons ?_ | with_reducible refine w_nil ?_ | with_reducible refine w_c ?_ | with_reducible refine w_call ?_ | with_reducible refine w_it ?_ | with_reducible refine w_rng1 ?_ | with_reducible refine w_rng2 ?_ | with_reducible refine w_m0 ?_ | with_reducible refine w_m1 ?_ | with_reducible refine w_sl ?_ | with_reducible refine w_part ?_ | with_reducible refine w_noP ?_ | with_reducible refine w_b ?_ | with_reducible refine w_notB ?_ | with_reducible refine w_if ?_ | with_reducible refine w_chain ?_ | with_reducible refine w_zip ?_ | with_reducible refine w_enum ?_ | with_reducible refine wg_add ?_ | with_reducible refine wg_sub ?_ | with_reducible refine wg_neg ?_ | with_reducible refine wg_lt ?_ | with_reducible refine wg_le ?_ | with_reducible refine wg_gt ?_ | with_reducible refine wg_ge ?_ | with_reducible refine wg_not ?_ | with_reducible refine wg_lenL ?_ | with_reducible refine wg_lenT ?_ | with_reducible refine wg_lenC ?_ | with_reducible refine wg_int ?_ | with_reducible refine wg_intB ?_ | with_reducible refine wg_abs ?_ | with_reducible refine wg_max2 ?_ | with_reducible refine wg_min2 ?_ | with_reducible refine wg_reprB ?_ | with_reducible refine wg_itL ?_ | with_reducible refine wg_itT ?_ | with_reducible refine wg_itC ?_ | with_reducible refine wg_itS ?_ | with_reducible refine wg_slL ?_ | with_reducible refine wg_slT ?_ | with_reducible refine wg_tupleL ?_ | with_reducible refine wg_tupleT ?_ | with_reducible refine wg_listL ?_ | with_reducible refine wg_listT ?_ | with_reducible refine wg_revL ?_ | with_reducible refine wg_revT ?_ | with_reducible refine wg_zipT ?_ | with_reducible refine wg_allM ?_ | with_reducible refine wg_anyM ?_ | with_reducible refine w_var (by with_unfolding_all rfl) ?_ | with_reducible refine wg_mul (Or.inr (by decide)) ?_ | with_reducible refine wg_mul (Or.inl (by decide)) ?_ | with_reducible refine wg_mod (by decide +kernel) ?_ | with_reducible refine wg_fdiv (by decide) ?_ | with_reducible refine wg_pow (by decide +kernel) ?_ | with_reducible refine wg_tup (by simp; done) ?_ | with_reducible refine wg_lst (by simp; done) ?_ | with_reducible refine w_dieSet (by decide) ?_ | with_reducible refine w_dieAt (by decide) (fun _ => ?_) | refine ⟨_, rfl, ?_⟩ | refine ⟨rfl, ?_⟩))
        refine wg_ne (b := true) (eqD_lst [] []) ⟨_, rfl, fun h => (nomatch h), fun _ => ?_⟩
        (repeat (first | with_reducible refine ws_seq ?_ | with_reducible refine ws_asg ?_ | with_reducible refine ws_ret ?_ | with_reducible refine ws_if ?_ | with_reducible refine ws_next ?_ | with_reducible refine ws_retN ?_ | with_reducible refine ws_brk ?_ | with_reducible refine ws_cont ?_ | with_reducible refine ws_drop ?_ | with_reducible refine ws_setI ?_ | with_reducible refine ws_for ?_ | with_reducible refine ws_par ?_ | with_reducible refine ws_frz ?_ | with_reducible refine ws_parO ?_ | with_reducible refine ws_setOwn ?_ | with_reducible refine ⟨fun _ => ?_, fun z => absurd rfl z⟩ | refine And.intro rt_nx fun _ => ?_ | refine And.intro bk_nx fun _ => ?_ | refine And.intro ct_nx fun _ => ?_ | with_reducible refine w_c2 ?_ | with_reducible refine w_c1 ?_ | with_reducible refine w_cA ?_ | with_reducible refine w_cons ?_ | with_reducible refine w_nil ?_ | with_reducible refine w_c ?_ | with_reducible refine w_call ?_ | with_reducible refine w_it ?_ | with_reducible refine w_rng1 ?_ | with_reducible refine w_rng2 ?_ | with_reducible refine w_m0 ?_ | with_reducible refine w_m1 ?_ | with_reducible refine w_sl ?_ | with_reducible refine w_part ?_ | with_reducible refine w_noP ?_ | with_reducible refine w_b ?_ | with_reducible refine w_notB ?_ | with_reducible refine w_if ?_ | with_reducible refine w_chain ?_ | with_reducible refine w_zip ?_ | with_reducible refine w_enum ?_ | with_reducible refine wg_add ?_ | with_reducible refine wg_sub ?_ | with_reducible refine wg_neg ?_ | with_reducible refine wg_lt ?_ | with_reducible refine wg_le ?_ | with_reducible refine wg_gt ?_ | with_reducible refine wg_ge ?_ | with_reducible refine wg_not ?_ | with_reducible refine wg_lenL ?_ | with_reducible refine wg_lenT ?_ | with_reducible refine wg_lenC ?_ | with_reducible refine wg_int ?_ | with_reducible refine wg_intB ?_ | with_reducible refine wg_abs ?_ | with_reducible refine wg_max2 ?_ | with_reducible refine wg_min2 ?_ | with_reducible refine wg_reprB ?_ | with_reducible refine wg_itL ?_ | with_reducible refine wg_itT ?_ | with_reducible refine wg_itC ?_ | with_reducible refine wg_itS ?_ | with_reducible refine wg_slL ?_ | with_reducible refine wg_slT ?_ | with_reducible refine wg_tupleL ?_ | with_reducible refine wg_tupleT ?_ | with_reducible refine wg_listL ?_ | with_reducible refine wg_listT ?_ | with_reducible refine wg_revL ?_ | with_reducible refine wg_revT ?_ | with_reducible refine wg_zipT ?_ | with_reducible refine wg_allM ?_ | with_reducible refine wg_anyM ?_ | with_reducible refine w_var (by with_unfolding_all rfl) ?_ | with_reducible refine wg_mul (Or.inr (by decide)) ?_ | with_reducible refine wg_mul (Or.inl (by decide)) ?_ | with_reducible refine wg_mod (by decide +kernel) ?_ | with_reducible refine wg_fdiv (by decide) ?_ | with_reducible refine wg_pow (by decide +kernel) ?_ | with_reducible refine wg_tup (by simp; done) ?_ | with_reducible refine wg_lst (by simp; done) ?_ | with_reducible refine w_dieSet (by decide) ?_ | with_reducible refine w_dieAt (by decide) (fun _ => ?_) | refine ⟨_, rfl, ?_⟩ | refine ⟨rfl, ?_⟩))
        exact ⟨fun d hd => hes d (List.mem_cons_of_mem _ hd), b, e3⟩
      · rintro ρ ⟨_, b, _⟩
        exact ⟨fun d hd => hds d (List.mem_cons_of_mem _ hd), b⟩
  · rintro ρ ⟨_, b⟩
    refine ⟨fun _ => ?_, fun z => absurd rfl z⟩
    refine ws_seq (ws_for (w_it (w_var b.v2 (wg_itT ?_))))
    refine ws_forL (J := fun es ρ => (∀ d ∈ es, ∃ x, d = bagD x ∧ x ∈ S) ∧ Bs n k S ρ) ?_ ?_ _ _ ⟨fun d hd => tups_mem hd, b⟩
    · rintro d es ρ ⟨hes, b⟩
      obtain ⟨x, rfl, hx⟩ := hes d List.mem_cons_self
      refine ⟨_, rfl, ?_⟩
      have e4 := b.at (i := 4) (Sl.val (bagD x)) (by decide)
      have b := b.set (i := 4) (Sl.val (bagD x)) (by decide)
      revert e4 b
      generalize ρ.set 4 (Sl.val (bagD x)) = ρ
      intro e4 b
      refine ws_seq (ws_if (w_b (w_c2 ?_)))
      refine w_filt (i := 7) (j := 4) (v := 11) true BT (B.w hx) (B.len x hx) _ (.inr rfl) b.v7 e4 (by rw [b.len]; decide) (by decide) ?_
      have f1 : (tupsI ((topG S).filter fun y => if true = true then within x y else within y x)).isEmpty = false := by
        obtain ⟨y, hy, hw⟩ := above B.len _ x hx (Nat.le_refl _)
        have m : y ∈ (topG S).filter fun y => if true = true then within x y else within y x := List.mem_filter.mpr ⟨hy, by rw [if_pos rfl]; exact hw⟩
        cases q : (topG S).filter fun y => if true = true then within x y else within y x with
        | nil => rw [q] at m; cases m
        | cons a as => rfl
      (repeat (first | with_reducible refine ws_seq ?_ | with_reducible refine ws_asg ?_ | with_reducible refine ws_ret ?_ | with_reducible refine ws_if ?_ | with_reducible refine ws_next ?_ | with_reducible refine ws_retN ?_ | with_reducible refine ws_brk ?_ | with_reducible refine ws_cont ?_ | with_reducible refine ws_drop ?_ | with_reducible refine ws_setI ?_ | with_reducible refine ws_for ?_ | with_reducible refine ws_par ?_ | with_reducible refine ws_frz ?_ | with_reducible refine ws_parO ?_ | with_reducible refine ws_setOwn ?_ | with_reducible refine ⟨fun _ => ?_, fun z => absurd rfl z⟩ | refine And.intro rt_nx fun _ => ?_ | refine And.intro bk_nx fun _ => ?_ | refine And.intro ct_nx fun _ => ?_ | with_reducible refine w_c2 ?_ | with_reducible refine w_c1 ?_ | with_reducible refine w_cA ?_ | with_reducible refine w_cons ?_ | with_reducible refine w_nil ?_ | with_reducible refine w_c ?_ | with_reducible refine w_call ?_ | with_reducible refine w_it ?_ | with_reducible refine w_rng1 ?_ | with_reducible refine w_rng2 ?_ | with_reducible refine w_m0 ?_ | with_reducible refine w_m1 ?_ | with_reducible refine w_sl ?_ | with_reducible refine w_part ?_ | with_reducible refine w_noP ?_ | with_reducible refine w_b ?_ | with_reducible refine w_notB ?_ | with_reducible refine w_if ?_ | with_reducible refine w_chain ?_ | with_reducible refine w_zip ?_ | with_reducible refine w_enum ?_ | with_reducible refine wg_add ?_ | with_reducible refine wg_sub ?_ | with_reducible refine wg_neg ?_ | with_reducible refine wg_lt ?_ | with_reducible refine wg_le ?_ | with_reducible refine wg_gt ?_ | with_reducible refine wg_ge ?_ | with_reducible refine wg_not ?_ | with_reducible refine wg_lenL ?_ | with_reducible refine wg_lenT ?_ | with_reducible refine wg_lenC ?_ | with_reducible refine wg_int ?_ | with_reducible refine wg_intB ?_ | with_reducible refine wg_abs ?_ | with_reducible refine wg_max2 ?_ | with_reducible refine wg_min2 ?_ | with_reducible refine wg_reprB ?_ | with_reducible refine wg_itL ?_ | with_reducible refine wg_itT ?_ | with_reducible refine wg_itC ?_ | with_reducible refine wg_itS ?_ | with_reducible refine wg_slL ?_ | with_reducible refine wg_slT ?_ | with_reducible refine wg_tupleL ?_ | with_reducible refine wg_tupleT ?_ | with_reducible refine wg_listL ?_ | with_reducible refine wg_listT ?_ | with_reducible refine wg_revL ?_ | with_reducible refine wg_revT ?_ | with_reducible refine wg_zipT ?_ | with_reducible refine wg_allM ?_ | with_reducible refine wg_anyM ?_ | with_reducible refine w_var (by with_unfolding_all rfl) ?_ | with_reducible refine wg_mul (Or.inr (by decide)) ?_ | with_reducible refine wg_mul (Or.inl (by decide)) ?_ | with_reducible refine wg_mod (by decide +kernel) ?_ | with_reducible refine wg_fdiv (by decide) ?_ | with_reducible refine wg_pow (by decide +kernel) ?_ | with_reducible refine wg_tup (by simp; done) ?_ | with_reducible refine wg_lst (by simp; done) ?_ | with_reducible refine w_dieSet (by decide) ?_ | with_reducible refine w_dieAt (by decide) (fun _ => ?_) | refine ⟨_, rfl, ?_⟩ | refine ⟨rfl, ?_⟩))
      refine wg_eqX (eqX_nil _) ?_
      rw [f1]
      refine ⟨_, rfl, fun h => (nomatch h), fun _ => ?_⟩
      refine ws_next ⟨fun _ => ?_, fun z => absurd rfl z⟩
      refine ws_if (w_b (w_c2 ?_))
      refine w_filt (i := 8) (j := 4) (v := 11) false BL (B.w hx) (B.len x hx) _ (.inr rfl) b.v8 e4 (by rw [b.len]; decide) (by decide) ?_
      have f2 : (tupsI ((lowG S).filter fun y => if false = true then within x y else within y x)).isEmpty = false := by
        obtain ⟨y, hy, hw⟩ := below B.len _ x hx (Nat.le_refl _)
        have m : y ∈ (lowG S).filter fun y => if false = true then within x y else within y x := List.mem_filter.mpr ⟨hy, by rw [if_neg Bool.false_ne_true]; exact hw⟩
        cases q : (lowG S).filter fun y => if false = true then within x y else within y x with
        | nil => rw [q] at m; cases m
        | cons a as => rfl
      (repeat (first | with_reducible refine ws_seq ?_ | with_reducible refine ws_asg ?_ | with_reducible refine ws_ret ?_ | with_reducible refine ws_if ?_ | with_reducible refine ws_next ?_ | with_reducible refine ws_retN ?_ | with_reducible refine ws_brk ?_ | with_reducible refine ws_cont ?_ | with_reducible refine ws_drop ?_ | with_reducible refine ws_setI ?_ | with_reducible refine ws_for ?_ | with_reducible refine ws_par ?_ | with_reducible refine ws_frz ?_ | with_reducible refine ws_parO ?_ | with_reducible refine ws_setOwn ?_ | with_reducible refine ⟨fun _ => ?_, fun z => absurd rfl z⟩ | refine And.intro rt_nx fun _ => ?_ | refine And.intro bk_nx fun _ => ?_ | refine And.intro ct_nx fun _ => ?_ | with_reducible refine w_c2 ?_ | with_reducible refine w_c1 ?_ | with_reducible refine w_cA ?_ | with_reducible refine w_cons ?_ | with_reducible refine w_nil ?_ | with_reducible refine w_c ?_ | with_reducible refine w_call ?_ | with_reducible refine w_it ?_ | with_reducible refine w_rng1 ?_ | with_reducible refine w_rng2 ?_ | with_reducible refine w_m0 ?_ | with_reducible refine w_m1 ?_ | with_reducible refine w_sl ?_ | with_reducible refine w_part ?_ | with_reducible refine w_noP ?_ | with_reducible refine w_b ?_ | with_reducible refine w_notB ?_ | with_reducible refine w_if ?_ | with_reducible refine w_chain ?_ | with_reducible refine w_zip ?_ | with_reducible refine w_enum ?_ | with_reducible refine wg_add ?_ | with_reducible refine wg_sub ?_ | with_reducible refine wg_neg ?_ | with_reducible refine wg_lt ?_ | with_reducible refine wg_le ?_ | with_reducible refine wg_gt ?_ | with_reducible refine wg_ge ?_ | with_reducible refine wg_not ?_ | with_reducible refine wg_lenL ?_ | with_reducible refine wg_lenT ?_ | with_reducible refine wg_lenC ?_ | with_reducible refine wg_int ?_ | with_reducible refine wg_intB ?_ | with_reducible refine wg_abs ?_ | with_reducible refine wg_max2 ?_ | with_reducible refine wg_min2 ?_ | with_reducible refine wg_reprB ?_ | with_reducible refine wg_itL ?_ | with_reducible refine wg_itT ?_ | with_reducible refine wg_itC ?_ | with_reducible refine wg_itS ?_ | with_reducible refine wg_slL ?_ | with_reducible refine wg_slT ?_ | with_reducible refine wg_tupleL ?_ | with_reducible refine wg_tupleT ?_ | with_reducible refine wg_listL ?_ | with_reducible refine wg_listT ?_ | with_reducible refine wg_revL ?_ | with_reducible refine wg_revT ?_ | with_reducible refine wg_zipT ?_ | with_reducible refine wg_allM ?_ | with_reducible refine wg_anyM ?_ | with_reducible refine w_var (by with_unfolding_all rfl) ?_ | with_reducible refine wg_mul (Or.inr (by decide)) ?_ | with_reducible refine wg_mul (Or.inl (by decide)) ?_ | with_reducible refine wg_mod (by decide +kernel) ?_ | with_reducible refine wg_fdiv (by decide) ?_ | with_reducible refine wg_pow (by decide +kernel) ?_ | with_reducible refine wg_tup (by simp; done) ?_ | with_reducible refine wg_lst (by simp; done) ?_ | with_reducible refine w_dieSet (by decide) ?_ | with_reducible refine w_dieAt (by decide) (fun _ => ?_) | refine ⟨_, rfl, ?_⟩ | refine ⟨rfl, ?_⟩))
      refine wg_eqX (eqX_nil _) ?_
      rw [f2]
      refine ⟨_, rfl, fun h => (nomatch h), fun _ => ?_⟩
      refine ws_next ?_
      exact ⟨fun d hd => hes d (List.mem_cons_of_mem _ hd), b⟩
    rintro ρ ⟨_, b⟩
    refine ⟨fun _ => ?_, fun z => absurd rfl z⟩
    refine ws_seq (ws_asg (w_cA (w_cons ?_)))
    refine w_comp (fun _ o => ∃ y, o = some y ∧ ∃ i, y = D.int i ∧ 0 ≤ i ∧ i ≤ 7) ?_
    refine w_rng1 (w_var b.v1 ?_)
    with_reducible refine wg_rngN (by omega) ?_
    refine ⟨by rw [rngD_len]; omega, fun d hd => ⟨_, rfl, w_yes ⟨fun _ => ?_, fun h => (nomatch h)⟩⟩, fun ys hys => ?_⟩
    · have bw : Bs n k S ((wipeE ρ [9]).set 9 (Sl.val d)) := (b.set (i := 9) Sl.un (by decide)).set (i := 9) _ (by decide)
      (repeat (first | with_reducible refine ws_seq ?_ | with_reducible refine ws_asg ?_ | with_reducible refine ws_ret ?_ | with_reducible refine ws_if ?_ | with_reducible refine ws_next ?_ | with_reducible refine ws_retN ?_ | with_reducible refine ws_brk ?_ | with_reducible refine ws_cont ?_ | with_reducible refine ws_drop ?_ | with_reducible refine ws_setI ?_ | with_reducible refine ws_for ?_ | with_reducible refine ws_par ?_ | with_reducible refine ws_frz ?_ | with_reducible refine ws_parO ?_ | with_reducible refine ws_setOwn ?_ | with_reducible refine ⟨fun _ => ?_, fun z => absurd rfl z⟩ | refine And.intro rt_nx fun _ => ?_ | refine And.intro bk_nx fun _ => ?_ | refine And.intro ct_nx fun _ => ?_ | with_reducible refine w_c2 ?_ | with_reducible refine w_c1 ?_ | with_reducible refine w_cA ?_ | with_reducible refine w_cons ?_ | with_reducible refine w_nil ?_ | with_reducible refine w_c ?_ | with_reducible refine w_call ?_ | with_reducible refine w_it ?_ | with_reducible refine w_rng1 ?_ | with_reducible refine w_rng2 ?_ | with_reducible refine w_m0 ?_ | with_reducible refine w_m1 ?_ | with_reducible refine w_sl ?_ | with_reducible refine w_part ?_ | with_reducible refine w_noP ?_ | with_reducible refine w_b ?_ | with_reducible refine w_notB ?_ | with_reducible refine w_if ?_ | with_reducible refine w_chain ?_ | with_reducible refine w_zip ?_ | with_reducible refine w_enum ?_ | with_reducible refine wg_add ?_ | with_reducible refine wg_sub ?_ | with_reducible refine wg_neg ?_ | with_reducible refine wg_lt ?_ | with_reducible refine wg_le ?_ | with_reducible refine wg_gt ?_ | with_reducible refine wg_ge ?_ | with_reducible refine wg_not ?_ | with_reducible refine wg_lenL ?_ | with_reducible refine wg_lenT ?_ | with_reducible refine wg_lenC ?_ | with_reducible refine wg_int ?_ | with_reducible refine wg_intB ?_ | with_reducible refine wg_abs ?_ | with_reducible refine wg_max2 ?_ | with_reducible refine wg_min2 ?_ | with_reducible refine wg_reprB ?_ | with_reducible refine wg_itL ?_ | with_reducible refine wg_itT ?_ | with_reducible refine wg_itC ?_ | with_reducible refine wg_itS ?_ | with_reducible refine wg_slL ?_ | with_reducible refine wg_slT ?_ | with_reducible refine wg_tupleL ?_ | with_reducible refine wg_tupleT ?_ | with_reducible refine wg_listL ?_ | with_reducible refine wg_listT ?_ | with_reducible refine wg_revL ?_ | with_reducible refine wg_revT ?_ | with_reducible refine wg_zipT ?_ | with_reducible refine wg_allM ?_ | with_reducible refine wg_anyM ?_ | with_reducible refine w_var (by with_unfolding_all rfl) ?_ | with_reducible refine wg_mul (Or.inr (by decide)) ?_ | with_reducible refine wg_mul (Or.inl (by decide)) ?_ | with_reducible refine wg_mod (by decide +kernel) ?_ | with_reducible refine wg_fdiv (by decide) ?_ | with_reducible refine wg_pow (by decide +kernel) ?_ | with_reducible refine wg_tup (by simp; done) ?_ | with_reducible refine wg_lst (by simp; done) ?_ | with_reducible refine w_dieSet (by decide) ?_ | with_reducible refine w_dieAt (by decide) (fun _ => ?_) | refine ⟨_, rfl, ?_⟩ | refine ⟨rfl, ?_⟩))
      refine w_var bw.v0 ?_
      (repeat (first | with_reducible refine ws_seq ?_ | with_reducible refine ws_asg ?_ | with_reducible refine ws_ret ?_ | with_reducible refine ws_if ?_ | with_reducible refine ws_next ?_ | with_reducible refine ws_retN ?_ | with_reducible refine ws_brk ?_ | with_reducible refine ws_cont ?_ | with_reducible refine ws_drop ?_ | with_reducible refine ws_setI ?_ | with_reducible refine ws_for ?_ | with_reducible refine ws_par ?_ | with_reducible refine ws_frz ?_ | with_reducible refine ws_parO ?_ | with_reducible refine ws_setOwn ?_ | with_reducible refine ⟨fun _ => ?_, fun z => absurd rfl z⟩ | refine And.intro rt_nx fun _ => ?_ | refine And.intro bk_nx fun _ => ?_ | refine And.intro ct_nx fun _ => ?_ | with_reducible refine w_c2 ?_ | with_reducible refine w_c1 ?_ | with_reducible refine w_cA ?_ | with_reducible refine w_cons ?_ | with_reducible refine w_nil ?_ | with_reducible refine w_c ?_ | with_reducible refine w_call ?_ | with_reducible refine w_it ?_ | with_reducible refine w_rng1 ?_ | with_reducible refine w_rng2 ?_ | with_reducible refine w_m0 ?_ | with_reducible refine w_m1 ?_ | with_reducible refine w_sl ?_ | with_reducible refine w_part ?_ | with_reducible refine w_noP ?_ | with_reducible refine w_b ?_ | with_reducible refine w_notB ?_ | with_reducible refine w_if ?_ | with_reducible refine w_chain ?_ | with_reducible refine w_zip ?_ | with_reducible refine w_enum ?_ | with_reducible refine wg_add ?_ | with_reducible refine wg_sub ?_ | with_reducible refine wg_neg ?_ | with_reducible refine wg_lt ?_ | with_reducible refine wg_le ?_ | with_reducible refine wg_gt ?_ | with_reducible refine wg_ge ?_ | with_reducible refine wg_not ?_ | with_reducible refine wg_lenL ?_ | with_reducible refine wg_lenT ?_ | with_reducible refine wg_lenC ?_ | with_reducible refine wg_int ?_ | with_reducible refine wg_intB ?_ | with_reducible refine wg_abs ?_ | with_reducible refine wg_max2 ?_ | with_reducible refine wg_min2 ?_ | with_reducible refine wg_reprB ?_ | with_reducible refine wg_itL ?_ | with_reducible refine wg_itT ?_ | with_reducible refine wg_itC ?_ | with_reducible refine wg_itS ?_ | with_reducible refine wg_slL ?_ | with_reducible refine wg_slT ?_ | with_reducible refine wg_tupleL ?_ | with_reducible refine wg_tupleT ?_ | with_reducible refine wg_listL ?_ | with_reducible refine wg_listT ?_ | with_reducible refine wg_revL ?_ | with_reducible refine wg_revT ?_ | with_reducible refine wg_zipT ?_ | with_reducible refine wg_allM ?_ | with_reducible refine wg_anyM ?_ | with_reducible refine w_var (by with_unfolding_all rfl) ?_ | with_reducible refine wg_mul (Or.inr (by decide)) ?_ | with_reducible refine wg_mul (Or.inl (by decide)) ?_ | with_reducible refine wg_mod (by decide +kernel) ?_ | with_reducible refine wg_fdiv (by decide) ?_ | with_reducible refine wg_pow (by decide +kernel) ?_ | with_reducible refine wg_tup (by simp; done) ?_ | with_reducible refine wg_lst (by simp; done) ?_ | with_reducible refine w_dieSet (by decide) ?_ | with_reducible refine w_dieAt (by decide) (fun _ => ?_) | refine ⟨_, rfl, ?_⟩ | refine ⟨rfl, ?_⟩))
      refine (w_pickL (by decide) (by decide)).imp (fun r hr => ⟨r, rfl, ?_⟩) fun _ _ x => x
      simp only [List.mem_cons, List.not_mem_nil, or_false] at hr
      rcases hr with h | h | h <;> subst h <;> exact ⟨_, rfl, by decide, by decide⟩
    obtain ⟨hyl, hya⟩ := hys.all
    obtain ⟨ms, rfl, hms⟩ := ints_of hya
    rw [rngD_len, List.length_map] at hyl
    have wms : Wide ms := ⟨by omega, by omega, fun x h => by have := hms x h; omega⟩
    (repeat (first | with_reducible refine ws_seq ?_ | with_reducible refine ws_asg ?_ | with_reducible refine ws_ret ?_ | with_reducible refine ws_if ?_ | with_reducible refine ws_next ?_ | with_reducible refine ws_retN ?_ | with_reducible refine ws_brk ?_ | with_reducible refine ws_cont ?_ | with_reducible refine ws_drop ?_ | with_reducible refine ws_setI ?_ | with_reducible refine ws_for ?_ | with_reducible refine ws_par ?_ | with_reducible refine ws_frz ?_ | with_reducible refine ws_parO ?_ | with_reducible refine ws_setOwn ?_ | with_reducible refine ⟨fun _ => ?_, fun z => absurd rfl z⟩ | refine And.intro rt_nx fun _ => ?_ | refine And.intro bk_nx fun _ => ?_ | refine And.intro ct_nx fun _ => ?_ | with_reducible refine w_c2 ?_ | with_reducible refine w_c1 ?_ | with_reducible refine w_cA ?_ | with_reducible refine w_cons ?_ | with_reducible refine w_nil ?_ | with_reducible refine w_c ?_ | with_reducible refine w_call ?_ | with_reducible refine w_it ?_ | with_reducible refine w_rng1 ?_ | with_reducible refine w_rng2 ?_ | with_reducible refine w_m0 ?_ | with_reducible refine w_m1 ?_ | with_reducible refine w_sl ?_ | with_reducible refine w_part ?_ | with_reducible refine w_noP ?_ | with_reducible refine w_b ?_ | with_reducible refine w_notB ?_ | with_reducible refine w_if ?_ | with_reducible refine w_chain ?_ | with_reducible refine w_zip ?_ | with_reducible refine w_enum ?_ | with_reducible refine wg_add ?_ | with_reducible refine wg_sub ?_ | with_reducible refine wg_neg ?_ | with_reducible refine wg_lt ?_ | with_reducible refine wg_le ?_ | with_reducible refine wg_gt ?_ | with_reducible refine wg_ge ?_ | with_reducible refine wg_not ?_ | with_reducible refine wg_lenL ?_ | with_reducible refine wg_lenT ?_ | with_reducible refine wg_lenC ?_ | with_reducible refine wg_int ?_ | with_reducible refine wg_intB ?_ | with_reducible refine wg_abs ?_ | with_reducible refine wg_max2 ?_ | with_reducible refine wg_min2 ?_ | with_reducible refine wg_reprB ?_ | with_reducible refine wg_itL ?_ | with_reducible refine wg_itT ?_ | with_reducible refine wg_itC ?_ | with_reducible refine wg_itS ?_ | with_reducible refine wg_slL ?_ | with_reducible refine wg_slT ?_ | with_reducible refine wg_tupleL ?_ | with_reducible refine wg_tupleT ?_ | with_reducible refine wg_listL ?_ | with_reducible refine wg_listT ?_ | with_reducible refine wg_revL ?_ | with_reducible refine wg_revT ?_ | with_reducible refine wg_zipT ?_ | with_reducible refine wg_allM ?_ | with_reducible refine wg_anyM ?_ | with_reducible refine w_var (by with_unfolding_all rfl) ?_ | with_reducible refine wg_mul (Or.inr (by decide)) ?_ | with_reducible refine wg_mul (Or.inl (by decide)) ?_ | with_reducible refine wg_mod (by decide +kernel) ?_ | with_reducible refine wg_fdiv (by decide) ?_ | with_reducible refine wg_pow (by decide +kernel) ?_ | with_reducible refine wg_tup (by simp; done) ?_ | with_reducible refine wg_lst (by simp; done) ?_ | with_reducible refine w_dieSet (by decide) ?_ | with_reducible refine w_dieAt (by decide) (fun _ => ?_) | refine ⟨_, rfl, ?_⟩ | refine ⟨rfl, ?_⟩))
    have e5 := b.at (i := 5) (Sl.val (bagD ms)) (by decide)
    have b := b.set (i := 5) (Sl.val (bagD ms)) (by decide)
    revert e5 b
    unfold bagD
    generalize ρ.set 5 (Sl.val (D.tup (ms.map D.int))) = ρ
    intro e5 b
    have e5 : ρ[5]? = some (.val (bagD ms)) := e5
    have addAll : ∀ (ρ : DN.Env) (i : Nat) (L : List (List Int)) (P : D → Prop), Bs n k S ρ → ρ[5]? = some (.val (bagD ms)) → Bags k L → ρ[i]? = some (.val (.tup (tupsI L))) → P (.lst (tupsI (L.map fun x => sumW x ms))) →
        Wp (IsDie n) (cComp (cIt (cVar i)) (bName 4) cYes (cCall 2 F_added (cCons (cVar 4) (cCons (cVar 5) cNil))) [4] ρ) P X := by
      intro ρ i L P b e5 bl ei h
      have few := bl.few
      have tl := tups_len L
      refine w_compM (fun d => bagD ((fun x => sumW x ms) (unD d))) ?_
      refine w_it (w_var ei (wg_itT ⟨by omega, fun d hd => ⟨_, rfl, ?_⟩, by rw [tups_map (fun x => sumW x ms)]; exact h⟩))
      obtain ⟨x, rfl, hx⟩ := tups_mem hd
      have ew : ((wipeE ρ [4]).set 4 (Sl.val (bagD x)))[4]? = some (Sl.val (bagD x)) := (b.set (i := 4) Sl.un (by decide)).at _ (by decide)
      have e5w : ((wipeE ρ [4]).set 4 (Sl.val (bagD x)))[5]? = some (Sl.val (bagD ms)) := by
        rw [List.getElem?_set_ne (by decide)]
        show (ρ.set 4 Sl.un)[5]? = _
        rw [List.getElem?_set_ne (by decide)]
        exact e5
      refine w_call (w_cons (w_var ew (w_cons (w_var e5w (w_nil ⟨rfl, ?_⟩)))))
      have lx := bl.len x hx
      refine (w_added (bl.w hx) wms (by omega)).imp (fun r hr => ?_) fun _ _ x => x
      rw [hr, unD_bag]
    have moved : ∀ {L : List (List Int)}, Bags k L → Bags k (L.map fun x => sumW x ms) := fun {L} bl => by
      refine ⟨bl.one, bl.five, by rw [List.length_map]; exact bl.few, fun x hx => ?_, fun x hx => ?_⟩
      · obtain ⟨y, hy, rfl⟩ := List.mem_map.mp hx
        have ly := bl.len y hy
        rw [sumW_length (by omega)]
        exact ly
      · obtain ⟨y, hy, rfl⟩ := List.mem_map.mp hx
        have ly := bl.len y hy
        exact (sumW_wide (by omega) (bl.w hy) wms).2.2
    refine addAll ρ 2 S _ b e5 B b.v2 ?_
    (repeat (first | with_reducible refine ws_seq ?_ | with_reducible refine ws_asg ?_ | with_reducible refine ws_ret ?_ | with_reducible refine ws_if ?_ | with_reducible refine ws_next ?_ | with_reducible refine ws_retN ?_ | with_reducible refine ws_brk ?_ | with_reducible refine ws_cont ?_ | with_reducible refine ws_drop ?_ | with_reducible refine ws_setI ?_ | with_reducible refine ws_for ?_ | with_reducible refine ws_par ?_ | with_reducible refine ws_frz ?_ | with_reducible refine ws_parO ?_ | with_reducible refine ws_setOwn ?_ | with_reducible refine ⟨fun _ => ?_, fun z => absurd rfl z⟩ | refine And.intro rt_nx fun _ => ?_ | refine And.intro bk_nx fun _ => ?_ | refine And.intro ct_nx fun _ => ?_ | with_reducible refine w_c2 ?_ | with_reducible refine w_c1 ?_ | with_reducible refine w_cA ?_ | with_reducible refine w_cons ?_ | with_reducible refine w_nil ?_ | with_reducible refine w_c ?_ | with_reducible refine w_call ?_ | with_reducible refine w_it ?_ | with_reducible refine w_rng1 ?_ | with_reducible refine w_rng2 ?_ | with_reducible refine w_m0 ?_ | with_reducible refine w_m1 ?_ | with_reducible refine w_sl ?_ | with_reducible refine w_part ?_ | with_reducible refine w_noP ?_ | with_reducible refine w_b ?_ | with_reducible refine w_notB ?_ | with_reducible refine w_if ?_ | with_reducible refine w_chain ?_ | with_reducible refine w_zip ?_ | with_reducible refine w_enum ?_ | with_reducible refine wg_add ?_ | with_reducible refine wg_sub ?_ | with_reducible refine wg_neg ?_ | with_reducible refine wg_lt ?_ | with_reducible refine wg_le ?_ | with_reducible refine wg_gt ?_ | with_reducible refine wg_ge ?_ | with_reducible refine wg_not ?_ | with_reducible refine wg_lenL ?_ | with_reducible refine wg_lenT ?_ | with_reducible refine wg_lenC ?_ | with_reducible refine wg_int ?_ | with_reducible refine wg_intB ?_ | with_reducible refine wg_abs ?_ | with_reducible refine wg_max2 ?_ | with_reducible refine wg_min2 ?_ | with_reducible refine wg_reprB ?_ | with_reducible refine wg_itL ?_ | with_reducible refine wg_itT ?_ | with_reducible refine wg_itC ?_ | with_reducible refine wg_itS ?_ | with_reducible refine wg_slL ?_ | with_reducible refine wg_slT ?_ | with_reducible refine wg_tupleL ?_ | with_reducible refine wg_tupleT ?_ | with_reducible refine wg_listL ?_ | with_reducible refine wg_listT ?_ | with_reducible refine wg_revL ?_ | with_reducible refine wg_revT ?_ | with_reducible refine wg_zipT ?_ | with_reducible refine wg_allM ?_ | with_reducible refine wg_anyM ?_ | with_reducible refine w_var (by with_unfolding_all rfl) ?_ | with_reducible refine wg_mul (Or.inr (by decide)) ?_ | with_reducible refine wg_mul (Or.inl (by decide)) ?_ | with_reducible refine wg_mod (by decide +kernel) ?_ | with_reducible refine wg_fdiv (by decide) ?_ | with_reducible refine wg_pow (by decide +kernel) ?_ | with_reducible refine wg_tup (by simp; done) ?_ | with_reducible refine wg_lst (by simp; done) ?_ | with_reducible refine w_dieSet (by decide) ?_ | with_reducible refine w_dieAt (by decide) (fun _ => ?_) | refine ⟨_, rfl, ?_⟩ | refine ⟨rfl, ?_⟩))
    have e6 := b.at (i := 6) (Sl.val (.tup (tupsI (S.map fun x => sumW x ms)))) (by decide)
    have e5 : (ρ.set 6 (Sl.val (.tup (tupsI (S.map fun x => sumW x ms)))))[5]? = some (.val (bagD ms)) := by rw [List.getElem?_set_ne (by decide)]; exact e5
    have b := b.set (i := 6) (Sl.val (.tup (tupsI (S.map fun x => sumW x ms)))) (by decide)
    revert e6 e5 b
    generalize ρ.set 6 (Sl.val (.tup (tupsI (S.map fun x => sumW x ms)))) = ρ
    intro e6 e5 b
    refine w_var e6 ?_
    (repeat (first | with_reducible refine ws_seq ?_ | with_reducible refine ws_asg ?_ | with_reducible refine ws_ret ?_ | with_reducible refine ws_if ?_ | with_reducible refine ws_next ?_ | with_reducible refine ws_retN ?_ | with_reducible refine ws_brk ?_ | with_reducible refine ws_cont ?_ | with_reducible refine ws_drop ?_ | with_reducible refine ws_setI ?_ | with_reducible refine ws_for ?_ | with_reducible refine ws_par ?_ | with_reducible refine ws_frz ?_ | with_reducible refine ws_parO ?_ | with_reducible refine ws_setOwn ?_ | with_reducible refine ⟨fun _ => ?_, fun z => absurd rfl z⟩ | refine And.intro rt_nx fun _ => ?_ | refine And.intro bk_nx fun _ => ?_ | refine And.intro ct_nx fun _ => ?_ | with_reducible refine w_c2 ?_ | with_reducible refine w_c1 ?_ | with_reducible refine w_cA ?_ | with_reducible refine w_cons ?_ | with_reducible refine w_nil ?_ | with_reducible refine w_c ?_ | with_reducible refine w_call ?_ | with_reducible refine w_it ?_ | with_reducible refine w_rng1 ?_ | with_reducible refine w_rng2 ?_ | with_reducible refine w_m0 ?_ | with_reducible refine w_m1 ?_ | with_reducible refine w_sl ?_ | with_reducible refine w_part ?_ | with_reducible refine w_noP ?_ | with_reducible refine w_b ?_ | with_reducible refine w_notB ?_ | with_reducible refine w_if ?_ | with_reducible refine w_chain ?_ | with_reducible refine w_zip ?_ | with_reducible refine w_enum ?_ | with_reducible refine wg_add ?_ | with_reducible refine wg_sub ?_ | with_reducible refine wg_neg ?_ | with_reducible refine wg_lt ?_ | with_reducible refine wg_le ?_ | with_reducible refine wg_gt ?_ | with_reducible refine wg_ge ?_ | with_reducible refine wg_not ?_ | with_reducible refine wg_lenL ?_ | with_reducible refine wg_lenT ?_ | with_reducible refine wg_lenC ?_ | with_reducible refine wg_int ?_ | with_reducible refine wg_intB ?_ | with_reducible refine wg_abs ?_ | with_reducible refine wg_max2 ?_ | with_reducible refine wg_min2 ?_ | with_reducible refine wg_reprB ?_ | with_reducible refine wg_itL ?_ | with_reducible refine wg_itT ?_ | with_reducible refine wg_itC ?_ | with_reducible refine wg_itS ?_ | with_reducible refine wg_slL ?_ | with_reducible refine wg_slT ?_ | with_reducible refine wg_tupleL ?_ | with_reducible refine wg_tupleT ?_ | with_reducible refine wg_listL ?_ | with_reducible refine wg_listT ?_ | with_reducible refine wg_revL ?_ | with_reducible refine wg_revT ?_ | with_reducible refine wg_zipT ?_ | with_reducible refine wg_allM ?_ | with_reducible refine wg_anyM ?_ | with_reducible refine w_var (by with_unfolding_all rfl) ?_ | with_reducible refine wg_mul (Or.inr (by decide)) ?_ | with_reducible refine wg_mul (Or.inl (by decide)) ?_ | with_reducible refine wg_mod (by decide +kernel) ?_ | with_reducible refine wg_fdiv (by decide) ?_ | with_reducible refine wg_pow (by decide +kernel) ?_ | with_reducible refine wg_tup (by simp; done) ?_ | with_reducible refine wg_lst (by simp; done) ?_ | with_reducible refine w_dieSet (by decide) ?_ | with_reducible refine w_dieAt (by decide) (fun _ => ?_) | refine ⟨_, rfl, ?_⟩ | refine ⟨rfl, ?_⟩))
    refine (w_greatest (moved B)).imp (fun r hr => ?_) fun _ _ x => x
    subst hr
    refine w_cA (w_cons (w_cA (w_cons (addAll ρ 7 (topG S) _ b e5 BT b.v7 ?_))))
    refine w_nil (wg_sortL (moved BT) ?_)
    (repeat (first | with_reducible refine ws_seq ?_ | with_reducible refine ws_asg ?_ | with_reducible refine ws_ret ?_ | with_reducible refine ws_if ?_ | with_reducible refine ws_next ?_ | with_reducible refine ws_retN ?_ | with_reducible refine ws_brk ?_ | with_reducible refine ws_cont ?_ | with_reducible refine ws_drop ?_ | with_reducible refine ws_setI ?_ | with_reducible refine ws_for ?_ | with_reducible refine ws_par ?_ | with_reducible refine ws_frz ?_ | with_reducible refine ws_parO ?_ | with_reducible refine ws_setOwn ?_ | with_reducible refine ⟨fun _ => ?_, fun z => absurd rfl z⟩ | refine And.intro rt_nx fun _ => ?_ | refine And.intro bk_nx fun _ => ?_ | refine And.intro ct_nx fun _ => ?_ | with_reducible refine w_c2 ?_ | with_reducible refine w_c1 ?_ | with_reducible refine w_cA ?_ | with_reducible refine w_cons ?_ | with_reducible refine w_nil ?_ | with_reducible refine w_c ?_ | with_reducible refine w_call ?_ | with_reducible refine w_it ?_ | with_reducible refine w_rng1 ?_ | with_reducible refine w_rng2 ?_ | with_reducible refine w_m0 ?_ | with_reducible refine w_m1 ?_ | with_reducible refine w_sl ?_ | with_reducible refine w_part ?_ | with_reducible refine w_noP ?_ | with_reducible refine w_b ?_ | with_reducible refine w_notB ?_ | with_reducible refine w_if ?_ | with_reducible refine w_chain ?_ | with_reducible refine w_zip ?_ | with_reducible refine w_enum ?_ | with_reducible refine wg_add ?_ | with_reducible refine wg_sub ?_ | with_reducible refine wg_neg ?_ | with_reducible refine wg_lt ?_ | with_reducible refine wg_le ?_ | with_reducible refine wg_gt ?_ | with_reducible refine wg_ge ?_ | with_reducible refine wg_not ?_ | with_reducible refine wg_lenL ?_ | with_reducible refine wg_lenT ?_ | with_reducible refine wg_lenC ?_ | with_reducible refine wg_int ?_ | with_reducible refine wg_intB ?_ | with_reducible refine wg_abs ?_ | with_reducible refine wg_max2 ?_ | with_reducible refine wg_min2 ?_ | with_reducible refine wg_reprB ?_ | with_reducible refine wg_itL ?_ | with_reducible refine wg_itT ?_ | with_reducible refine wg_itC ?_ | with_reducible refine wg_itS ?_ | with_reducible refine wg_slL ?_ | with_reducible refine wg_slT ?_ | with_reducible refine wg_tupleL ?_ | with_reducible refine wg_tupleT ?_ | with_reducible refine wg_listL ?_ | with_reducible refine wg_listT ?_ | with_reducible refine wg_revL ?_ | with_reducible refine wg_revT ?_ | with_reducible refine wg_zipT ?_ | with_reducible refine wg_allM ?_ | with_reducible refine wg_anyM ?_ | with_reducible refine w_var (by with_unfolding_all rfl) ?_ | with_reducible refine wg_mul (Or.inr (by decide)) ?_ | with_reducible refine wg_mul (Or.inl (by decide)) ?_ | with_reducible refine wg_mod (by decide +kernel) ?_ | with_reducible refine wg_fdiv (by decide) ?_ | with_reducible refine wg_pow (by decide +kernel) ?_ | with_reducible refine wg_tup (by simp; done) ?_ | with_reducible refine wg_lst (by simp; done) ?_ | with_reducible refine w_dieSet (by decide) ?_ | with_reducible refine w_dieAt (by decide) (fun _ => ?_) | refine ⟨_, rfl, ?_⟩ | refine ⟨rfl, ?_⟩))
    refine wg_ne (eqD_tup _ _) ?_
    rw [decide_eq_true (topG_moved (fun x hx => by rw [B.len x hx]; exact hyl.symm) B.wide fun m hm => (hms m hm).1)]
    refine ⟨_, rfl, fun h => (nomatch h), fun _ => ?_⟩
    (repeat (first | with_reducible refine ws_seq ?_ | with_reducible refine ws_asg ?_ | with_reducible refine ws_ret ?_ | with_reducible refine ws_if ?_ | with_reducible refine ws_next ?_ | with_reducible refine ws_retN ?_ | with_reducible refine ws_brk ?_ | with_reducible refine ws_cont ?_ | with_reducible refine ws_drop ?_ | with_reducible refine ws_setI ?_ | with_reducible refine ws_for ?_ | with_reducible refine ws_par ?_ | with_reducible refine ws_frz ?_ | with_reducible refine ws_parO ?_ | with_reducible refine ws_setOwn ?_ | with_reducible refine ⟨fun _ => ?_, fun z => absurd rfl z⟩ | refine And.intro rt_nx fun _ => ?_ | refine And.intro bk_nx fun _ => ?_ | refine And.intro ct_nx fun _ => ?_ | with_reducible refine w_c2 ?_ | with_reducible refine w_c1 ?_ | with_reducible refine w_cA ?_ | with_reducible refine w_cons ?_ | with_reducible refine w_nil ?_ | with_reducible refine w_c ?_ | with_reducible refine w_call ?_ | with_reducible refine w_it ?_ | with_reducible refine w_rng1 ?_ | with_reducible refine w_rng2 ?_ | with_reducible refine w_m0 ?_ | with_reducible refine w_m1 ?_ | with_reducible refine w_sl ?_ | with_reducible refine w_part ?_ | with_reducible refine w_noP ?_ | with_reducible refine w_b ?_ | with_reducible refine w_notB ?_ | with_reducible refine w_if ?_ | with_reducible refine w_chain ?_ | with_reducible refine w_zip ?_ | with_reducible refine w_enum ?_ | with_reducible refine wg_add ?_ | with_reducible refine wg_sub ?_ | with_reducible refine wg_neg ?_ | with_reducible refine wg_lt ?_ | with_reducible refine wg_le ?_ | with_reducible refine wg_gt ?_ | with_reducible refine wg_ge ?_ | with_reducible refine wg_not ?_ | with_reducible refine wg_lenL ?_ | with_reducible refine wg_lenT ?_ | with_reducible refine wg_lenC ?_ | with_reducible refine wg_int ?_ | with_reducible refine wg_intB ?_ | with_reducible refine wg_abs ?_ | with_reducible refine wg_max2 ?_ | with_reducible refine wg_min2 ?_ | with_reducible refine wg_reprB ?_ | with_reducible refine wg_itL ?_ | with_reducible refine wg_itT ?_ | with_reducible refine wg_itC ?_ | with_reducible refine wg_itS ?_ | with_reducible refine wg_slL ?_ | with_reducible refine wg_slT ?_ | with_reducible refine wg_tupleL ?_ | with_reducible refine wg_tupleT ?_ | with_reducible refine wg_listL ?_ | with_reducible refine wg_listT ?_ | with_reducible refine wg_revL ?_ | with_reducible refine wg_revT ?_ | with_reducible refine wg_zipT ?_ | with_reducible refine wg_allM ?_ | with_reducible refine wg_anyM ?_ | with_reducible refine w_var (by with_unfolding_all rfl) ?_ | with_reducible refine wg_mul (Or.inr (by decide)) ?_ | with_reducible refine wg_mul (Or.inl (by decide)) ?_ | with_reducible refine wg_mod (by decide +kernel) ?_ | with_reducible refine wg_fdiv (by decide) ?_ | with_reducible refine wg_pow (by decide +kernel) ?_ | with_reducible refine wg_tup (by simp; done) ?_ | with_reducible refine wg_lst (by simp; done) ?_ | with_reducible refine w_dieSet (by decide) ?_ | with_reducible refine w_dieAt (by decide) (fun _ => ?_) | refine ⟨_, rfl, ?_⟩ | refine ⟨rfl, ?_⟩))
    refine w_var b.v7 ?_
    (repeat (first | with_reducible refine ws_seq ?_ | with_reducible refine ws_asg ?_ | with_reducible refine ws_ret ?_ | with_reducible refine ws_if ?_ | with_reducible refine ws_next ?_ | with_reducible refine ws_retN ?_ | with_reducible refine ws_brk ?_ | with_reducible refine ws_cont ?_ | with_reducible refine ws_drop ?_ | with_reducible refine ws_setI ?_ | with_reducible refine ws_for ?_ | with_reducible refine ws_par ?_ | with_reducible refine ws_frz ?_ | with_reducible refine ws_parO ?_ | with_reducible refine ws_setOwn ?_ | with_reducible refine ⟨fun _ => ?_, fun z => absurd rfl z⟩ | refine And.intro rt_nx fun _ => ?_ | refine And.intro bk_nx fun _ => ?_ | refine And.intro ct_nx fun _ => ?_ | with_reducible refine w_c2 ?_ | with_reducible refine w_c1 ?_ | with_reducible refine w_cA ?_ | with_reducible refine w_cons ?_ | with_reducible refine w_nil ?_ | with_reducible refine w_c ?_ | with_reducible refine w_call ?_ | with_reducible refine w_it ?_ | with_reducible refine w_rng1 ?_ | with_reducible refine w_rng2 ?_ | with_reducible refine w_m0 ?_ | with_reducible refine w_m1 ?_ | with_reducible refine w_sl ?_ | with_reducible refine w_part ?_ | with_reducible refine w_noP ?_ | with_reducible refine w_b ?_ | with_reducible refine w_notB ?_ | with_reducible refine w_if ?_ | with_reducible refine w_chain ?_ | with_reducible refine w_zip ?_ | with_reducible refine w_enum ?_ | with_reducible refine wg_add ?_ | with_reducible refine wg_sub ?_ | with_reducible refine wg_neg ?_ | with_reducible refine wg_lt ?_ | with_reducible refine wg_le ?_ | with_reducible refine wg_gt ?_ | with_reducible refine wg_ge ?_ | with_reducible refine wg_not ?_ | with_reducible refine wg_lenL ?_ | with_reducible refine wg_lenT ?_ | with_reducible refine wg_lenC ?_ | with_reducible refine wg_int ?_ | with_reducible refine wg_intB ?_ | with_reducible refine wg_abs ?_ | with_reducible refine wg_max2 ?_ | with_reducible refine wg_min2 ?_ | with_reducible refine wg_reprB ?_ | with_reducible refine wg_itL ?_ | with_reducible refine wg_itT ?_ | with_reducible refine wg_itC ?_ | with_reducible refine wg_itS ?_ | with_reducible refine wg_slL ?_ | with_reducible refine wg_slT ?_ | with_reducible refine wg_tupleL ?_ | with_reducible refine wg_tupleT ?_ | with_reducible refine wg_listL ?_ | with_reducible refine wg_listT ?_ | with_reducible refine wg_revL ?_ | with_reducible refine wg_revT ?_ | with_reducible refine wg_zipT ?_ | with_reducible refine wg_allM ?_ | with_reducible refine wg_anyM ?_ | with_reducible refine w_var (by with_unfolding_all rfl) ?_ | with_reducible refine wg_mul (Or.inr (by decide)) ?_ | with_reducible refine wg_mul (Or.inl (by decide)) ?_ | with_reducible refine wg_mod (by decide +kernel) ?_ | with_reducible refine wg_fdiv (by decide) ?_ | with_reducible refine wg_pow (by decide +kernel) ?_ | with_reducible refine wg_tup (by simp; done) ?_ | with_reducible refine wg_lst (by simp; done) ?_ | with_reducible refine w_dieSet (by decide) ?_ | with_reducible refine w_dieAt (by decide) (fun _ => ?_) | refine ⟨_, rfl, ?_⟩ | refine ⟨rfl, ?_⟩))
    refine (w_greatest BT).imp (fun r hr => ?_) fun _ _ x => x
    subst hr
    refine w_var b.v7 ?_
    refine wg_ne (eqD_tup _ _) ?_
    rw [decide_eq_true (topG_idem S)]
    refine ⟨_, rfl, fun h => (nomatch h), fun _ => ?_⟩
    (repeat (first | with_reducible refine ws_seq ?_ | with_reducible refine ws_asg ?_ | with_reducible refine ws_ret ?_ | with_reducible refine ws_if ?_ | with_reducible refine ws_next ?_ | with_reducible refine ws_retN ?_ | with_reducible refine ws_brk ?_ | with_reducible refine ws_cont ?_ | with_reducible refine ws_drop ?_ | with_reducible refine ws_setI ?_ | with_reducible refine ws_for ?_ | with_reducible refine ws_par ?_ | with_reducible refine ws_frz ?_ | with_reducible refine ws_parO ?_ | with_reducible refine ws_setOwn ?_ | with_reducible refine ⟨fun _ => ?_, fun z => absurd rfl z⟩ | refine And.intro rt_nx fun _ => ?_ | refine And.intro bk_nx fun _ => ?_ | refine And.intro ct_nx fun _ => ?_ | with_reducible refine w_c2 ?_ | with_reducible refine w_c1 ?_ | with_reducible refine w_cA ?_ | with_reducible refine w_cons ?_ | with_reducible refine w_nil ?_ | with_reducible refine w_c ?_ | with_reducible refine w_call ?_ | with_reducible refine w_it ?_ | with_reducible refine w_rng1 ?_ | with_reducible refine w_rng2 ?_ | with_reducible refine w_m0 ?_ | with_reducible refine w_m1 ?_ | with_reducible refine w_sl ?_ | with_reducible refine w_part ?_ | with_reducible refine w_noP ?_ | with_reducible refine w_b ?_ | with_reducible refine w_notB ?_ | with_reducible refine w_if ?_ | with_reducible refine w_chain ?_ | with_reducible refine w_zip ?_ | with_reducible refine w_enum ?_ | with_reducible refine wg_add ?_ | with_reducible refine wg_sub ?_ | with_reducible refine wg_neg ?_ | with_reducible refine wg_lt ?_ | with_reducible refine wg_le ?_ | with_reducible refine wg_gt ?_ | with_reducible refine wg_ge ?_ | with_reducible refine wg_not ?_ | with_reducible refine wg_lenL ?_ | with_reducible refine wg_lenT ?_ | with_reducible refine wg_lenC ?_ | with_reducible refine wg_int ?_ | with_reducible refine wg_intB ?_ | with_reducible refine wg_abs ?_ | with_reducible refine wg_max2 ?_ | with_reducible refine wg_min2 ?_ | with_reducible refine wg_reprB ?_ | with_reducible refine wg_itL ?_ | with_reducible refine wg_itT ?_ | with_reducible refine wg_itC ?_ | with_reducible refine wg_itS ?_ | with_reducible refine wg_slL ?_ | with_reducible refine wg_slT ?_ | with_reducible refine wg_tupleL ?_ | with_reducible refine wg_tupleT ?_ | with_reducible refine wg_listL ?_ | with_reducible refine wg_listT ?_ | with_reducible refine wg_revL ?_ | with_reducible refine wg_revT ?_ | with_reducible refine wg_zipT ?_ | with_reducible refine wg_allM ?_ | with_reducible refine wg_anyM ?_ | with_reducible refine w_var (by with_unfolding_all rfl) ?_ | with_reducible refine wg_mul (Or.inr (by decide)) ?_ | with_reducible refine wg_mul (Or.inl (by decide)) ?_ | with_reducible refine wg_mod (by decide +kernel) ?_ | with_reducible refine wg_fdiv (by decide) ?_ | with_reducible refine wg_pow (by decide +kernel) ?_ | with_reducible refine wg_tup (by simp; done) ?_ | with_reducible refine wg_lst (by simp; done) ?_ | with_reducible refine w_dieSet (by decide) ?_ | with_reducible refine w_dieAt (by decide) (fun _ => ?_) | refine ⟨_, rfl, ?_⟩ | refine ⟨rfl, ?_⟩))
    refine w_var b.v8 ?_
    (repeat (first | with_reducible refine ws_seq ?_ | with_reducible refine ws_asg ?_ | with_reducible refine ws_ret ?_ | with_reducible refine ws_if ?_ | with_reducible refine ws_next ?_ | with_reducible refine ws_retN ?_ | with_reducible refine ws_brk ?_ | with_reducible refine ws_cont ?_ | with_reducible refine ws_drop ?_ | with_reducible refine ws_setI ?_ | with_reducible refine ws_for ?_ | with_reducible refine ws_par ?_ | with_reducible refine ws_frz ?_ | with_reducible refine ws_parO ?_ | with_reducible refine ws_setOwn ?_ | with_reducible refine ⟨fun _ => ?_, fun z => absurd rfl z⟩ | refine And.intro rt_nx fun _ => ?_ | refine And.intro bk_nx fun _ => ?_ | refine And.intro ct_nx fun _ => ?_ | with_reducible refine w_c2 ?_ | with_reducible refine w_c1 ?_ | with_reducible refine w_cA ?_ | with_reducible refine w_cons ?_ | with_reducible refine w_nil ?_ | with_reducible refine w_c ?_ | with_reducible refine w_call ?_ | with_reducible refine w_it ?_ | with_reducible refine w_rng1 ?_ | with_reducible refine w_rng2 ?_ | with_reducible refine w_m0 ?_ | with_reducible refine w_m1 ?_ | with_reducible refine w_sl ?_ | with_reducible refine w_part ?_ | with_reducible refine w_noP ?_ | with_reducible refine w_b ?_ | with_reducible refine w_notB ?_ | with_reducible refine w_if ?_ | with_reducible refine w_chain ?_ | with_reducible refine w_zip ?_ | with_reducible refine w_enum ?_ | with_reducible refine wg_add ?_ | with_reducible refine wg_sub ?_ | with_reducible refine wg_neg ?_ | with_reducible refine wg_lt ?_ | with_reducible refine wg_le ?_ | with_reducible refine wg_gt ?_ | with_reducible refine wg_ge ?_ | with_reducible refine wg_not ?_ | with_reducible refine wg_lenL ?_ | with_reducible refine wg_lenT ?_ | with_reducible refine wg_lenC ?_ | with_reducible refine wg_int ?_ | with_reducible refine wg_intB ?_ | with_reducible refine wg_abs ?_ | with_reducible refine wg_max2 ?_ | with_reducible refine wg_min2 ?_ | with_reducible refine wg_reprB ?_ | with_reducible refine wg_itL ?_ | with_reducible refine wg_itT ?_ | with_reducible refine wg_itC ?_ | with_reducible refine wg_itS ?_ | with_reducible refine wg_slL ?_ | with_reducible refine wg_slT ?_ | with_reducible refine wg_tupleL ?_ | with_reducible refine wg_tupleT ?_ | with_reducible refine wg_listL ?_ | with_reducible refine wg_listT ?_ | with_reducible refine wg_revL ?_ | with_reducible refine wg_revT ?_ | with_reducible refine wg_zipT ?_ | with_reducible refine wg_allM ?_ | with_reducible refine wg_anyM ?_ | with_reducible refine w_var (by with_unfolding_all rfl) ?_ | with_reducible refine wg_mul (Or.inr (by decide)) ?_ | with_reducible refine wg_mul (Or.inl (by decide)) ?_ | with_reducible refine wg_mod (by decide +kernel) ?_ | with_reducible refine wg_fdiv (by decide) ?_ | with_reducible refine wg_pow (by decide +kernel) ?_ | with_reducible refine wg_tup (by simp; done) ?_ | with_reducible refine wg_lst (by simp; done) ?_ | with_reducible refine w_dieSet (by decide) ?_ | with_reducible refine w_dieAt (by decide) (fun _ => ?_) | refine ⟨_, rfl, ?_⟩ | refine ⟨rfl, ?_⟩))
    refine (w_least BL).imp (fun r hr => ?_) fun _ _ x => x
    subst hr
    refine w_var b.v8 ?_
    refine wg_ne (eqD_tup _ _) ?_
    rw [decide_eq_true (lowG_idem S)]
    refine ⟨_, rfl, fun h => (nomatch h), fun _ => ?_⟩
    (repeat (first | with_reducible refine ws_seq ?_ | with_reducible refine ws_asg ?_ | with_reducible refine ws_ret ?_ | with_reducible refine ws_if ?_ | with_reducible refine ws_next ?_ | with_reducible refine ws_retN ?_ | with_reducible refine ws_brk ?_ | with_reducible refine ws_cont ?_ | with_reducible refine ws_drop ?_ | with_reducible refine ws_setI ?_ | with_reducible refine ws_for ?_ | with_reducible refine ws_par ?_ | with_reducible refine ws_frz ?_ | with_reducible refine ws_parO ?_ | with_reducible refine ws_setOwn ?_ | with_reducible refine ⟨fun _ => ?_, fun z => absurd rfl z⟩ | refine And.intro rt_nx fun _ => ?_ | refine And.intro bk_nx fun _ => ?_ | refine And.intro ct_nx fun _ => ?_ | with_reducible refine w_c2 ?_ | with_reducible refine w_c1 ?_ | with_reducible refine w_cA ?_ | with_reducible refine w_cons ?_ | with_reducible refine w_nil ?_ | with_reducible refine w_c ?_ | with_reducible refine w_call ?_ | with_reducible refine w_it ?_ | with_reducible refine w_rng1 ?_ | with_reducible refine w_rng2 ?_ | with_reducible refine w_m0 ?_ | with_reducible refine w_m1 ?_ | with_reducible refine w_sl ?_ | with_reducible refine w_part ?_ | with_reducible refine w_noP ?_ | with_reducible refine w_b ?_ | with_reducible refine w_notB ?_ | with_reducible refine w_if ?_ | with_reducible refine w_chain ?_ | with_reducible refine w_zip ?_ | with_reducible refine w_enum ?_ | with_reducible refine wg_add ?_ | with_reducible refine wg_sub ?_ | with_reducible refine wg_neg ?_ | with_reducible refine wg_lt ?_ | with_reducible refine wg_le ?_ | with_reducible refine wg_gt ?_ | with_reducible refine wg_ge ?_ | with_reducible refine wg_not ?_ | with_reducible refine wg_lenL ?_ | with_reducible refine wg_lenT ?_ | with_reducible refine wg_lenC ?_ | with_reducible refine wg_int ?_ | with_reducible refine wg_intB ?_ | with_reducible refine wg_abs ?_ | with_reducible refine wg_max2 ?_ | with_reducible refine wg_min2 ?_ | with_reducible refine wg_reprB ?_ | with_reducible refine wg_itL ?_ | with_reducible refine wg_itT ?_ | with_reducible refine wg_itC ?_ | with_reducible refine wg_itS ?_ | with_reducible refine wg_slL ?_ | with_reducible refine wg_slT ?_ | with_reducible refine wg_tupleL ?_ | with_reducible refine wg_tupleT ?_ | with_reducible refine wg_listL ?_ | with_reducible refine wg_listT ?_ | with_reducible refine wg_revL ?_ | with_reducible refine wg_revT ?_ | with_reducible refine wg_zipT ?_ | with_reducible refine wg_allM ?_ | with_reducible refine wg_anyM ?_ | with_reducible refine w_var (by with_unfolding_all rfl) ?_ | with_reducible refine wg_mul (Or.inr (by decide)) ?_ | with_reducible refine wg_mul (Or.inl (by decide)) ?_ | with_reducible refine wg_mod (by decide +kernel) ?_ | with_reducible refine wg_fdiv (by decide) ?_ | with_reducible refine wg_pow (by decide +kernel) ?_ | with_reducible refine wg_tup (by simp; done) ?_ | with_reducible refine wg_lst (by simp; done) ?_ | with_reducible refine w_dieSet (by decide) ?_ | with_reducible refine w_dieAt (by decide) (fun _ => ?_) | refine ⟨_, rfl, ?_⟩ | refine ⟨rfl, ?_⟩))
    refine w_var b.v2 ?_
    (repeat (first | with_reducible refine ws_seq ?_ | with_reducible refine ws_asg ?_ | with_reducible refine ws_ret ?_ | with_reducible refine ws_if ?_ | with_reducible refine ws_next ?_ | with_reducible refine ws_retN ?_ | with_reducible refine ws_brk ?_ | with_reducible refine ws_cont ?_ | with_reducible refine ws_drop ?_ | with_reducible refine ws_setI ?_ | with_reducible refine ws_for ?_ | with_reducible refine ws_par ?_ | with_reducible refine ws_frz ?_ | with_reducible refine ws_parO ?_ | with_reducible refine ws_setOwn ?_ | with_reducible refine ⟨fun _ => ?_, fun z => absurd rfl z⟩ | refine And.intro rt_nx fun _ => ?_ | refine And.intro bk_nx fun _ => ?_ | refine And.intro ct_nx fun _ => ?_ | with_reducible refine w_c2 ?_ | with_reducible refine w_c1 ?_ | with_reducible refine w_cA ?_ | with_reducible refine w_cons ?_ | with_reducible refine w_nil ?_ | with_reducible refine w_c ?_ | with_reducible refine w_call ?_ | with_reducible refine w_it ?_ | with_reducible refine w_rng1 ?_ | with_reducible refine w_rng2 ?_ | with_reducible refine w_m0 ?_ | with_reducible refine w_m1 ?_ | with_reducible refine w_sl ?_ | with_reducible refine w_part ?_ | with_reducible refine w_noP ?_ | with_reducible refine w_b ?_ | with_reducible refine w_notB ?_ | with_reducible refine w_if ?_ | with_reducible refine w_chain ?_ | with_reducible refine w_zip ?_ | with_reducible refine w_enum ?_ | with_reducible refine wg_add ?_ | with_reducible refine wg_sub ?_ | with_reducible refine wg_neg ?_ | with_reducible refine wg_lt ?_ | with_reducible refine wg_le ?_ | with_reducible refine wg_gt ?_ | with_reducible refine wg_ge ?_ | with_reducible refine wg_not ?_ | with_reducible refine wg_lenL ?_ | with_reducible refine wg_lenT ?_ | with_reducible refine wg_lenC ?_ | with_reducible refine wg_int ?_ | with_reducible refine wg_intB ?_ | with_reducible refine wg_abs ?_ | with_reducible refine wg_max2 ?_ | with_reducible refine wg_min2 ?_ | with_reducible refine wg_reprB ?_ | with_reducible refine wg_itL ?_ | with_reducible refine wg_itT ?_ | with_reducible refine wg_itC ?_ | with_reducible refine wg_itS ?_ | with_reducible refine wg_slL ?_ | with_reducible refine wg_slT ?_ | with_reducible refine wg_tupleL ?_ | with_reducible refine wg_tupleT ?_ | with_reducible refine wg_listL ?_ | with_reducible refine wg_listT ?_ | with_reducible refine wg_revL ?_ | with_reducible refine wg_revT ?_ | with_reducible refine wg_zipT ?_ | with_reducible refine wg_allM ?_ | with_reducible refine wg_anyM ?_ | with_reducible refine w_var (by with_unfolding_all rfl) ?_ | with_reducible refine wg_mul (Or.inr (by decide)) ?_ | with_reducible refine wg_mul (Or.inl (by decide)) ?_ | with_reducible refine wg_mod (by decide +kernel) ?_ | with_reducible refine wg_fdiv (by decide) ?_ | with_reducible refine wg_pow (by decide +kernel) ?_ | with_reducible refine wg_tup (by simp; done) ?_ | with_reducible refine wg_lst (by simp; done) ?_ | with_reducible refine w_dieSet (by decide) ?_ | with_reducible refine w_dieAt (by decide) (fun _ => ?_) | refine ⟨_, rfl, ?_⟩ | refine ⟨rfl, ?_⟩))
    have rev : (tupsI S).reverse = tupsI S.reverse := by unfold tupsI; rw [List.map_reverse]
    rw [rev]
    refine (w_greatest (B.sub (by rw [List.length_reverse]; exact Nat.le_refl _) fun x h => List.mem_reverse.mp h)).imp (fun r hr => ?_) fun _ _ x => x
    subst hr
    refine w_var b.v7 ?_
    refine wg_eqX (eqX_of (eqD_tup _ _)) ?_
    rw [decide_eq_true (topG_ext fun z => List.mem_reverse)]
    (repeat (first | with_reducible refine ws_seq ?_ | with_reducible refine ws_asg ?_ | with_reducible refine ws_ret ?_ | with_reducible refine ws_if ?_ | with_reducible refine ws_next ?_ | with_reducible refine ws_retN ?_ | with_reducible refine ws_brk ?_ | with_reducible refine ws_cont ?_ | with_reducible refine ws_drop ?_ | with_reducible refine ws_setI ?_ | with_reducible refine ws_for ?_ | with_reducible refine ws_par ?_ | with_reducible refine ws_frz ?_ | with_reducible refine ws_parO ?_ | with_reducible refine ws_setOwn ?_ | with_reducible refine ⟨fun _ => ?_, fun z => absurd rfl z⟩ | refine And.intro rt_nx fun _ => ?_ | refine And.intro bk_nx fun _ => ?_ | refine And.intro ct_nx fun _ => ?_ | with_reducible refine w_c2 ?_ | with_reducible refine w_c1 ?_ | with_reducible refine w_cA ?_ | with_reducible refine w_cons ?_ | with_reducible refine w_nil ?_ | with_reducible refine w_c ?_ | with_reducible refine w_call ?_ | with_reducible refine w_it ?_ | with_reducible refine w_rng1 ?_ | with_reducible refine w_rng2 ?_ | with_reducible refine w_m0 ?_ | with_reducible refine w_m1 ?_ | with_reducible refine w_sl ?_ | with_reducible refine w_part ?_ | with_reducible refine w_noP ?_ | with_reducible refine w_b ?_ | with_reducible refine w_notB ?_ | with_reducible refine w_if ?_ | with_reducible refine w_chain ?_ | with_reducible refine w_zip ?_ | with_reducible refine w_enum ?_ | with_reducible refine wg_add ?_ | with_reducible refine wg_sub ?_ | with_reducible refine wg_neg ?_ | with_reducible refine wg_lt ?_ | with_reducible refine wg_le ?_ | with_reducible refine wg_gt ?_ | with_reducible refine wg_ge ?_ | with_reducible refine wg_not ?_ | with_reducible refine wg_lenL ?_ | with_reducible refine wg_lenT ?_ | with_reducible refine wg_lenC ?_ | with_reducible refine wg_int ?_ | with_reducible refine wg_intB ?_ | with_reducible refine wg_abs ?_ | with_reducible refine wg_max2 ?_ | with_reducible refine wg_min2 ?_ | with_reducible refine wg_reprB ?_ | with_reducible refine wg_itL ?_ | with_reducible refine wg_itT ?_ | with_reducible refine wg_itC ?_ | with_reducible refine wg_itS ?_ | with_reducible refine wg_slL ?_ | with_reducible refine wg_slT ?_ | with_reducible refine wg_tupleL ?_ | with_reducible refine wg_tupleT ?_ | with_reducible refine wg_listL ?_ | with_reducible refine wg_listT ?_ | with_reducible refine wg_revL ?_ | with_reducible refine wg_revT ?_ | with_reducible refine wg_zipT ?_ | with_reducible refine wg_allM ?_ | with_reducible refine wg_anyM ?_ | with_reducible refine w_var (by with_unfolding_all rfl) ?_ | with_reducible refine wg_mul (Or.inr (by decide)) ?_ | with_reducible refine wg_mul (Or.inl (by decide)) ?_ | with_reducible refine wg_mod (by decide +kernel) ?_ | with_reducible refine wg_fdiv (by decide) ?_ | with_reducible refine wg_pow (by decide +kernel) ?_ | with_reducible refine wg_tup (by simp; done) ?_ | with_reducible refine wg_lst (by simp; done) ?_ | with_reducible refine w_dieSet (by decide) ?_ | with_reducible refine w_dieAt (by decide) (fun _ => ?_) | refine ⟨_, rfl, ?_⟩ | refine ⟨rfl, ?_⟩))
  · intro d hd
    simp only [List.mem_cons, List.not_mem_nil, or_false] at hd
    rcases hd with h | h <;> subst h
    · exact ⟨_, rfl, told_top B⟩
    · exact ⟨_, rfl, told_low B⟩
end K03
namespace K03
open PySem PySem.Spec PyProof.Rows L2 DN KB SO
theorem bagsB {k : Nat} {L : List (List Int)} (h : (decide (1 ≤ k) && decide (k ≤ 5) && decide (L.length < 64) && L.all (fun x => decide (x.length = k)) && L.all fun x => x.all fun e => decide (-1 ≤ e)) = true) : Bags k L := by
  simp only [Bool.and_eq_true, decide_eq_true_eq, List.all_eq_true] at h
  exact ⟨h.1.1.1.1, h.1.1.1.2, h.1.1.2, h.1.2, h.2⟩
theorem main : ∀ ns : List Int, ns.length ≤ 63 → ∃ S', F_law [.scr ns] [] = .ok (.bl true) S' := by
  intro ns hn
  have h : Wp (fun _ => True) (F_law [.scr ns]) (fun d => d = .bl true) X0 := by
    refine w_def rfl ?_
    unfold b_law
    (repeat (first | with_reducible refine ws_seq ?_ | with_reducible refine ws_asg ?_ | with_reducible refine ws_ret ?_ | with_reducible refine ws_if ?_ | with_reducible refine ws_next ?_ | with_reducible refine ws_retN ?_ | with_reducible refine ws_brk ?_ | with_reducible refine ws_cont ?_ | with_reducible refine ws_drop ?_ | with_reducible refine ws_setI ?_ | with_reducible refine ws_for ?_ | with_reducible refine ws_par ?_ | with_reducible refine ws_frz ?_ | with_reducible refine ws_parO ?_ | with_reducible refine ws_setOwn ?_ | with_reducible refine ⟨fun _ => ?_, fun z => absurd rfl z⟩ | refine And.intro rt_nx fun _ => ?_ | refine And.intro bk_nx fun _ => ?_ | refine And.intro ct_nx fun _ => ?_ | with_reducible refine w_c2 ?_ | with_reducible refine w_c1 ?_ | with_reducible refine w_cA ?_ | with_reducible refine w_cons ?_ | with_reducible refine w_nil ?_ | with_reducible refine w_c ?_ | with_reducible refine w_call ?_ | with_reducible refine w_it ?_ | with_reducible refine w_rng1 ?_ | with_reducible refine w_rng2 ?_ | with_reducible refine w_m0 ?_ | with_reducible refine w_m1 ?_ | with_reducible refine w_sl ?_ | with_reducible refine w_part ?_ | with_reducible refine w_noP ?_ | with_reducible refine w_b ?_ | with_reducible refine w_notB ?_ | with_reducible refine w_if ?_ | with_reducible refine w_chain ?_ | with_reducible refine w_zip ?_ | with_reducible refine w_enum ?_ | with_reducible refine wg_add ?_ | with_reducible refine wg_sub ?_ | with_reducible refine wg_neg ?_ | with_reducible refine wg_lt ?_ | with_reducible refine wg_le ?_ | with_reducible refine wg_gt ?_ | with_reducible refine wg_ge ?_ | with_reducible refine wg_not ?_ | with_reducible refine wg_lenL ?_ | with_reducible refine wg_lenT ?_ | with_reducible refine wg_lenC ?_ | with_reducible refine wg_int ?_ | with_reducible refine wg_intB ?_ | with_reducible refine wg_abs ?_ | with_reducible refine wg_max2 ?_ | with_reducible refine wg_min2 ?_ | with_reducible refine wg_reprB ?_ | with_reducible refine wg_itL ?_ | with_reducible refine wg_itT ?_ | with_reducible refine wg_itC ?_ | with_reducible refine wg_itS ?_ | with_reducible refine wg_slL ?_ | with_reducible refine wg_slT ?_ | with_reducible refine wg_tupleL ?_ | with_reducible refine wg_tupleT ?_ | with_reducible refine wg_listL ?_ | with_reducible refine wg_listT ?_ | with_reducible refine wg_revL ?_ | with_reducible refine wg_revT ?_ | with_reducible refine wg_zipT ?_ | with_reducible refine wg_allM ?_ | with_reducible refine wg_anyM ?_ | with_reducible refine w_var (by with_unfolding_all rfl) ?_ | with_reducible refine wg_mul (Or.inr (by decide)) ?_ | with_reducible refine wg_mul (Or.inl (by decide)) ?_ | with_reducible refine wg_mod (by decide +kernel) ?_ | with_reducible refine wg_fdiv (by decide) ?_ | with_reducible refine wg_pow (by decide +kernel) ?_ | with_reducible refine wg_tup (by simp; done) ?_ | with_reducible refine wg_lst (by simp; done) ?_ | with_reducible refine w_dieSet (by decide) ?_ | with_reducible refine w_dieAt (by decide) (fun _ => ?_) | refine ⟨_, rfl, ?_⟩ | refine ⟨rfl, ?_⟩))
    have hb : ∀ m : Nat, (if (if (m : Int) < 8 then (m : Int) else 8) > 1 then if (m : Int) < 8 then (m : Int) else 8 else 1) ≤ 8 ∧ (1 : Int) ≤ (if (if (m : Int) < 8 then (m : Int) else 8) > 1 then if (m : Int) < 8 then (m : Int) else 8 else 1) := by
      intro m
      split <;> split <;> omega
    have hb := hb ns.length
    revert hb
    generalize (if (if (ns.length : Int) < 8 then (ns.length : Int) else 8) > 1 then if (ns.length : Int) < 8 then (ns.length : Int) else 8 else 1) = top
    intro hb
    with_reducible refine wg_rng1 ⟨by omega, by omega⟩ ?_
    refine ws_forL (J := fun ds ρ => (∀ d ∈ ds, ∃ k : Nat, d = .int k) ∧ ρ.length = 5 ∧ ρ[0]? = some (.val (.scr ns))) ?_ ?_ _ _ ⟨?_, rfl, rfl⟩
    · rintro d ds ρ ⟨hds, hl, h0⟩
      obtain ⟨k, rfl⟩ := hds d List.mem_cons_self
      refine ⟨_, rfl, ?_⟩
      refine ws_newDie (fun S => ?_) fun n => ?_
      · obtain ⟨S', e, hd⟩ := run_numbers ns k S
        refine ⟨S', ?_, hd⟩
        have e0 : (ρ.set 1 (Sl.val (.int k)))[0]? = some (.val (.scr ns)) := by rw [List.getElem?_set_ne (by decide)]; exact h0
        have e1 : (ρ.set 1 (Sl.val (.int k)))[1]? = some (.val (.int k)) := List.getElem?_set_self (by omega)
        simp only [cCall, cA, cCons, cNil, bind_run, M.pure, cVar, e0, e1, List.length_cons, List.length_nil, Nat.reduceAdd, if_true, e]
      · have hl' : ((ρ.set 1 (Sl.val (.int k))).set 3 (Sl.val (.mut n))).length = 5 := by rw [List.length_set, List.length_set]; exact hl
        have h0' : ((ρ.set 1 (Sl.val (.int k))).set 3 (Sl.val (.mut n)))[0]? = some (.val (.scr ns)) := by rw [List.getElem?_set_ne (by decide), List.getElem?_set_ne (by decide)]; exact h0
        have h3' : ((ρ.set 1 (Sl.val (.int k))).set 3 (Sl.val (.mut n)))[3]? = some (.val (.mut n)) := List.getElem?_set_self (by rw [List.length_set]; omega)
        revert hl' h0' h3'
        generalize ((ρ.set 1 (Sl.val (.int k))).set 3 (Sl.val (.mut n))) = ρ'
        intro hl' h0' h3'
        (repeat (first | with_reducible refine ws_seq ?_ | with_reducible refine ws_asg ?_ | with_reducible refine ws_ret ?_ | with_reducible refine ws_if ?_ | with_reducible refine ws_next ?_ | with_reducible refine ws_retN ?_ | with_reducible refine ws_brk ?_ | with_reducible refine ws_cont ?_ | with_reducible refine ws_drop ?_ | with_reducible refine ws_setI ?_ | with_reducible refine ws_for ?_ | with_reducible refine ws_par ?_ | with_reducible refine ws_frz ?_ | with_reducible refine ws_parO ?_ | with_reducible refine ws_setOwn ?_ | with_reducible refine ⟨fun _ => ?_, fun z => absurd rfl z⟩ | refine And.intro rt_nx fun _ => ?_ | refine And.intro bk_nx fun _ => ?_ | refine And.intro ct_nx fun _ => ?_ | with_reducible refine w_c2 ?_ | with_reducible refine w_c1 ?_ | with_reducible refine w_cA ?_ | with_reducible refine w_cons ?_ | with_reducible refine w_nil ?_ | with_reducible refine w_c ?_ | with_reducible refine w_call ?_ | with_reducible refine w_it ?_ | with_reducible refine w_rng1 ?_ | with_reducible refine w_rng2 ?_ | with_reducible refine w_m0 ?_ | with_reducible refine w_m1 ?_ | with_reducible refine w_sl ?_ | with_reducible refine w_part ?_ | with_reducible refine w_noP ?_ | with_reducible refine w_b ?_ | with_reducible refine w_notB ?_ | with_reducible refine w_if ?_ | with_reducible refine w_chain ?_ | with_reducible refine w_zip ?_ | with_reducible refine w_enum ?_ | with_reducible refine wg_add ?_ | with_reducible refine wg_sub ?_ | with_reducible refine wg_neg ?_ | with_reducible refine wg_lt ?_ | with_reducible refine wg_le ?_ | with_reducible refine wg_gt ?_ | with_reducible refine wg_ge ?_ | with_reducible refine wg_not ?_ | with_reducible refine wg_lenL ?_ | with_reducible refine wg_lenT ?_ | with_reducible refine wg_lenC ?_ | with_reducible refine wg_int ?_ | with_reducible refine wg_intB ?_ | with_reducible refine wg_abs ?_ | with_reducible refine wg_max2 ?_ | with_reducible refine wg_min2 ?_ | with_reducible refine wg_reprB ?_ | with_reducible refine wg_itL ?_ | with_reducible refine wg_itT ?_ | with_reducible refine wg_itC ?_ | with_reducible refine wg_itS ?_ | with_reducible refine wg_slL ?_ | with_reducible refine wg_slT ?_ | with_reducible refine wg_tupleL ?_ | with_reducible refine wg_tupleT ?_ | with_reducible refine wg_listL ?_ | with_reducible refine wg_listT ?_ | with_reducible refine wg_revL ?_ | with_reducible refine wg_revT ?_ | with_reducible refine wg_zipT ?_ | with_reducible refine wg_allM ?_ | with_reducible refine wg_anyM ?_ | with_reducible refine w_var (by with_unfolding_all rfl) ?_ | with_reducible refine wg_mul (Or.inr (by decide)) ?_ | with_reducible refine wg_mul (Or.inl (by decide)) ?_ | with_reducible refine wg_mod (by decide +kernel) ?_ | with_reducible refine wg_fdiv (by decide) ?_ | with_reducible refine wg_pow (by decide +kernel) ?_ | with_reducible refine wg_tup (by simp; done) ?_ | with_reducible refine wg_lst (by simp; done) ?_ | with_reducible refine w_dieSet (by decide) ?_ | with_reducible refine w_dieAt (by decide) (fun _ => ?_) | refine ⟨_, rfl, ?_⟩ | refine ⟨rfl, ?_⟩))
        refine wg_rng1 (by decide) ?_
        refine ws_forL (J := fun ds ρ => ρ.length = 5 ∧ ρ[0]? = some (.val (.scr ns)) ∧ ρ[3]? = some (.val (.mut n))) ?_ ?_ _ _ ⟨hl', h0', h3'⟩
        · rintro d ds ρ ⟨hl, h0, h3⟩
          refine ⟨_, rfl, ?_⟩
          have e3 : (ρ.set 4 (Sl.val d))[3]? = some (.val (.mut n)) := by rw [List.getElem?_set_ne (by decide)]; exact h3
          (repeat (first | with_reducible refine ws_seq ?_ | with_reducible refine ws_asg ?_ | with_reducible refine ws_ret ?_ | with_reducible refine ws_if ?_ | with_reducible refine ws_next ?_ | with_reducible refine ws_retN ?_ | with_reducible refine ws_brk ?_ | with_reducible refine ws_cont ?_ | with_reducible refine ws_drop ?_ | with_reducible refine ws_setI ?_ | with_reducible refine ws_for ?_ | with_reducible refine ws_par ?_ | with_reducible refine ws_frz ?_ | with_reducible refine ws_parO ?_ | with_reducible refine ws_setOwn ?_ | with_reducible refine ⟨fun _ => ?_, fun z => absurd rfl z⟩ | refine And.intro rt_nx fun _ => ?_ | refine And.intro bk_nx fun _ => ?_ | refine And.intro ct_nx fun _ => ?_ | with_reducible refine w_c2 ?_ | with_reducible refine w_c1 ?_ | with_reducible refine w_cA ?_ | with_reducible refine w_cons ?_ | with_reducible refine w_nil ?_ | with_reducible refine w_c ?_ | with_reducible refine w_call ?_ | with_reducible refine w_it ?_ | with_reducible refine w_rng1 ?_ | with_reducible refine w_rng2 ?_ | with_reducible refine w_m0 ?_ | with_reducible refine w_m1 ?_ | with_reducible refine w_sl ?_ | with_reducible refine w_part ?_ | with_reducible refine w_noP ?_ | with_reducible refine w_b ?_ | with_reducible refine w_notB ?_ | with_reducible refine w_if ?_ | with_reducible refine w_chain ?_ | with_reducible refine w_zip ?_ | with_reducible refine w_enum ?_ | with_reducible refine wg_add ?_ | with_reducible refine wg_sub ?_ | with_reducible refine wg_neg ?_ | with_reducible refine wg_lt ?_ | with_reducible refine wg_le ?_ | with_reducible refine wg_gt ?_ | with_reducible refine wg_ge ?_ | with_reducible refine wg_not ?_ | with_reducible refine wg_lenL ?_ | with_reducible refine wg_lenT ?_ | with_reducible refine wg_lenC ?_ | with_reducible refine wg_int ?_ | with_reducible refine wg_intB ?_ | with_reducible refine wg_abs ?_ | with_reducible refine wg_max2 ?_ | with_reducible refine wg_min2 ?_ | with_reducible refine wg_reprB ?_ | with_reducible refine wg_itL ?_ | with_reducible refine wg_itT ?_ | with_reducible refine wg_itC ?_ | with_reducible refine wg_itS ?_ | with_reducible refine wg_slL ?_ | with_reducible refine wg_slT ?_ | with_reducible refine wg_tupleL ?_ | with_reducible refine wg_tupleT ?_ | with_reducible refine wg_listL ?_ | with_reducible refine wg_listT ?_ | with_reducible refine wg_revL ?_ | with_reducible refine wg_revT ?_ | with_reducible refine wg_zipT ?_ | with_reducible refine wg_allM ?_ | with_reducible refine wg_anyM ?_ | with_reducible refine w_var (by with_unfolding_all rfl) ?_ | with_reducible refine wg_mul (Or.inr (by decide)) ?_ | with_reducible refine wg_mul (Or.inl (by decide)) ?_ | with_reducible refine wg_mod (by decide +kernel) ?_ | with_reducible refine wg_fdiv (by decide) ?_ | with_reducible refine wg_pow (by decide +kernel) ?_ | with_reducible refine wg_tup (by simp; done) ?_ | with_reducible refine wg_lst (by simp; done) ?_ | with_reducible refine w_dieSet (by decide) ?_ | with_reducible refine w_dieAt (by decide) (fun _ => ?_) | refine ⟨_, rfl, ?_⟩ | refine ⟨rfl, ?_⟩))
          refine w_var e3 ?_
          (repeat (first | with_reducible refine ws_seq ?_ | with_reducible refine ws_asg ?_ | with_reducible refine ws_ret ?_ | with_reducible refine ws_if ?_ | with_reducible refine ws_next ?_ | with_reducible refine ws_retN ?_ | with_reducible refine ws_brk ?_ | with_reducible refine ws_cont ?_ | with_reducible refine ws_drop ?_ | with_reducible refine ws_setI ?_ | with_reducible refine ws_for ?_ | with_reducible refine ws_par ?_ | with_reducible refine ws_frz ?_ | with_reducible refine ws_parO ?_ | with_reducible refine ws_setOwn ?_ | with_reducible refine ⟨fun _ => ?_, fun z => absurd rfl z⟩ | refine And.intro rt_nx fun _ => ?_ | refine And.intro bk_nx fun _ => ?_ | refine And.intro ct_nx fun _ => ?_ | with_reducible refine w_c2 ?_ | with_reducible refine w_c1 ?_ | with_reducible refine w_cA ?_ | with_reducible refine w_cons ?_ | with_reducible refine w_nil ?_ | with_reducible refine w_c ?_ | with_reducible refine w_call ?_ | with_reducible refine w_it ?_ | with_reducible refine w_rng1 ?_ | with_reducible refine w_rng2 ?_ | with_reducible refine w_m0 ?_ | with_reducible refine w_m1 ?_ | with_reducible refine w_sl ?_ | with_reducible refine w_part ?_ | with_reducible refine w_noP ?_ | with_reducible refine w_b ?_ | with_reducible refine w_notB ?_ | with_reducible refine w_if ?_ | with_reducible refine w_chain ?_ | with_reducible refine w_zip ?_ | with_reducible refine w_enum ?_ | with_reducible refine wg_add ?_ | with_reducible refine wg_sub ?_ | with_reducible refine wg_neg ?_ | with_reducible refine wg_lt ?_ | with_reducible refine wg_le ?_ | with_reducible refine wg_gt ?_ | with_reducible refine wg_ge ?_ | with_reducible refine wg_not ?_ | with_reducible refine wg_lenL ?_ | with_reducible refine wg_lenT ?_ | with_reducible refine wg_lenC ?_ | with_reducible refine wg_int ?_ | with_reducible refine wg_intB ?_ | with_reducible refine wg_abs ?_ | with_reducible refine wg_max2 ?_ | with_reducible refine wg_min2 ?_ | with_reducible refine wg_reprB ?_ | with_reducible refine wg_itL ?_ | with_reducible refine wg_itT ?_ | with_reducible refine wg_itC ?_ | with_reducible refine wg_itS ?_ | with_reducible refine wg_slL ?_ | with_reducible refine wg_slT ?_ | with_reducible refine wg_tupleL ?_ | with_reducible refine wg_tupleT ?_ | with_reducible refine wg_listL ?_ | with_reducible refine wg_listT ?_ | with_reducible refine wg_revL ?_ | with_reducible refine wg_revT ?_ | with_reducible refine wg_zipT ?_ | with_reducible refine wg_allM ?_ | with_reducible refine wg_anyM ?_ | with_reducible refine w_var (by with_unfolding_all rfl) ?_ | with_reducible refine wg_mul (Or.inr (by decide)) ?_ | with_reducible refine wg_mul (Or.inl (by decide)) ?_ | with_reducible refine wg_mod (by decide +kernel) ?_ | with_reducible refine wg_fdiv (by decide) ?_ | with_reducible refine wg_pow (by decide +kernel) ?_ | with_reducible refine wg_tup (by simp; done) ?_ | with_reducible refine wg_lst (by simp; done) ?_ | with_reducible refine w_dieSet (by decide) ?_ | with_reducible refine w_dieAt (by decide) (fun _ => ?_) | refine ⟨_, rfl, ?_⟩ | refine ⟨rfl, ?_⟩))
          refine w_right.imp (fun r hr => ?_) fun _ _ x => x
          subst hr
          refine ⟨_, rfl, fun h => (nomatch h), fun _ => ?_⟩
          (repeat (first | with_reducible refine ws_seq ?_ | with_reducible refine ws_asg ?_ | with_reducible refine ws_ret ?_ | with_reducible refine ws_if ?_ | with_reducible refine ws_next ?_ | with_reducible refine ws_retN ?_ | with_reducible refine ws_brk ?_ | with_reducible refine ws_cont ?_ | with_reducible refine ws_drop ?_ | with_reducible refine ws_setI ?_ | with_reducible refine ws_for ?_ | with_reducible refine ws_par ?_ | with_reducible refine ws_frz ?_ | with_reducible refine ws_parO ?_ | with_reducible refine ws_setOwn ?_ | with_reducible refine ⟨fun _ => ?_, fun z => absurd rfl z⟩ | refine And.intro rt_nx fun _ => ?_ | refine And.intro bk_nx fun _ => ?_ | refine And.intro ct_nx fun _ => ?_ | with_reducible refine w_c2 ?_ | with_reducible refine w_c1 ?_ | with_reducible refine w_cA ?_ | with_reducible refine w_cons ?_ | with_reducible refine w_nil ?_ | with_reducible refine w_c ?_ | with_reducible refine w_call ?_ | with_reducible refine w_it ?_ | with_reducible refine w_rng1 ?_ | with_reducible refine w_rng2 ?_ | with_reducible refine w_m0 ?_ | with_reducible refine w_m1 ?_ | with_reducible refine w_sl ?_ | with_reducible refine w_part ?_ | with_reducible refine w_noP ?_ | with_reducible refine w_b ?_ | with_reducible refine w_notB ?_ | with_reducible refine w_if ?_ | with_reducible refine w_chain ?_ | with_reducible refine w_zip ?_ | with_reducible refine w_enum ?_ | with_reducible refine wg_add ?_ | with_reducible refine wg_sub ?_ | with_reducible refine wg_neg ?_ | with_reducible refine wg_lt ?_ | with_reducible refine wg_le ?_ | with_reducible refine wg_gt ?_ | with_reducible refine wg_ge ?_ | with_reducible refine wg_not ?_ | with_reducible refine wg_lenL ?_ | with_reducible refine wg_lenT ?_ | with_reducible refine wg_lenC ?_ | with_reducible refine wg_int ?_ | with_reducible refine wg_intB ?_ | with_reducible refine wg_abs ?_ | with_reducible refine wg_max2 ?_ | with_reducible refine wg_min2 ?_ | with_reducible refine wg_reprB ?_ | with_reducible refine wg_itL ?_ | with_reducible refine wg_itT ?_ | with_reducible refine wg_itC ?_ | with_reducible refine wg_itS ?_ | with_reducible refine wg_slL ?_ | with_reducible refine wg_slT ?_ | with_reducible refine wg_tupleL ?_ | with_reducible refine wg_tupleT ?_ | with_reducible refine wg_listL ?_ | with_reducible refine wg_listT ?_ | with_reducible refine wg_revL ?_ | with_reducible refine wg_revT ?_ | with_reducible refine wg_zipT ?_ | with_reducible refine wg_allM ?_ | with_reducible refine wg_anyM ?_ | with_reducible refine w_var (by with_unfolding_all rfl) ?_ | with_reducible refine wg_mul (Or.inr (by decide)) ?_ | with_reducible refine wg_mul (Or.inl (by decide)) ?_ | with_reducible refine wg_mod (by decide +kernel) ?_ | with_reducible refine wg_fdiv (by decide) ?_ | with_reducible refine wg_pow (by decide +kernel) ?_ | with_reducible refine wg_tup (by simp; done) ?_ | with_reducible refine wg_lst (by simp; done) ?_ | with_reducible refine w_dieSet (by decide) ?_ | with_reducible refine w_dieAt (by decide) (fun _ => ?_) | refine ⟨_, rfl, ?_⟩ | refine ⟨rfl, ?_⟩))
          exact ⟨by rw [List.length_set]; exact hl, by rw [List.getElem?_set_ne (by decide)]; exact h0, e3⟩
        · rintro ρ ⟨hl, h0, h3⟩
          exact ⟨fun d hd => hds d (List.mem_cons_of_mem _ hd), hl, h0⟩
    · rintro ρ ⟨_, hl, _⟩
      have g2 : ∀ d, (ρ.set 2 (Sl.val d))[2]? = some (.val d) := fun d => List.getElem?_set_self (by omega)
      have B1 : Bags 2 [[2, 0], [1, 1], [-1, 0], [0, 1], [1, 1], [0, -1]] := bagsB (by decide)
      have B2 : Bags 1 ([] : List (List Int)) := bagsB (by decide)
      have B3 : Bags 1 [[0], [0]] := bagsB (by decide)
      (repeat (first | with_reducible refine ws_seq ?_ | with_reducible refine ws_asg ?_ | with_reducible refine ws_ret ?_ | with_reducible refine ws_if ?_ | with_reducible refine ws_next ?_ | with_reducible refine ws_retN ?_ | with_reducible refine ws_brk ?_ | with_reducible refine ws_cont ?_ | with_reducible refine ws_drop ?_ | with_reducible refine ws_setI ?_ | with_reducible refine ws_for ?_ | with_reducible refine ws_par ?_ | with_reducible refine ws_frz ?_ | with_reducible refine ws_parO ?_ | with_reducible refine ws_setOwn ?_ | with_reducible refine ⟨fun _ => ?_, fun z => absurd rfl z⟩ | refine And.intro rt_nx fun _ => ?_ | refine And.intro bk_nx fun _ => ?_ | refine And.intro ct_nx fun _ => ?_ | with_reducible refine w_c2 ?_ | with_reducible refine w_c1 ?_ | with_reducible refine w_cA ?_ | with_reducible refine w_cons ?_ | with_reducible refine w_nil ?_ | with_reducible refine w_c ?_ | with_reducible refine w_call ?_ | with_reducible refine w_it ?_ | with_reducible refine w_rng1 ?_ | with_reducible refine w_rng2 ?_ | with_reducible refine w_m0 ?_ | with_reducible refine w_m1 ?_ | with_reducible refine w_sl ?_ | with_reducible refine w_part ?_ | with_reducible refine w_noP ?_ | with_reducible refine w_b ?_ | with_reducible refine w_notB ?_ | with_reducible refine w_if ?_ | with_reducible refine w_chain ?_ | with_reducible refine w_zip ?_ | with_reducible refine w_enum ?_ | with_reducible refine wg_add ?_ | with_reducible refine wg_sub ?_ | with_reducible refine wg_neg ?_ | with_reducible refine wg_lt ?_ | with_reducible refine wg_le ?_ | with_reducible refine wg_gt ?_ | with_reducible refine wg_ge ?_ | with_reducible refine wg_not ?_ | with_reducible refine wg_lenL ?_ | with_reducible refine wg_lenT ?_ | with_reducible refine wg_lenC ?_ | with_reducible refine wg_int ?_ | with_reducible refine wg_intB ?_ | with_reducible refine wg_abs ?_ | with_reducible refine wg_max2 ?_ | with_reducible refine wg_min2 ?_ | with_reducible refine wg_reprB ?_ | with_reducible refine wg_itL ?_ | with_reducible refine wg_itT ?_ | with_reducible refine wg_itC ?_ | with_reducible refine wg_itS ?_ | with_reducible refine wg_slL ?_ | with_reducible refine wg_slT ?_ | with_reducible refine wg_tupleL ?_ | with_reducible refine wg_tupleT ?_ | with_reducible refine wg_listL ?_ | with_reducible refine wg_listT ?_ | with_reducible refine wg_revL ?_ | with_reducible refine wg_revT ?_ | with_reducible refine wg_zipT ?_ | with_reducible refine wg_allM ?_ | with_reducible refine wg_anyM ?_ | with_reducible refine w_var (by with_unfolding_all rfl) ?_ | with_reducible refine wg_mul (Or.inr (by decide)) ?_ | with_reducible refine wg_mul (Or.inl (by decide)) ?_ | with_reducible refine wg_mod (by decide +kernel) ?_ | with_reducible refine wg_fdiv (by decide) ?_ | with_reducible refine wg_pow (by decide +kernel) ?_ | with_reducible refine wg_tup (by simp; done) ?_ | with_reducible refine wg_lst (by simp; done) ?_ | with_reducible refine w_dieSet (by decide) ?_ | with_reducible refine w_dieAt (by decide) (fun _ => ?_) | refine ⟨_, rfl, ?_⟩ | refine ⟨rfl, ?_⟩))
      refine w_var (g2 _) ?_
      (repeat (first | with_reducible refine ws_seq ?_ | with_reducible refine ws_asg ?_ | with_reducible refine ws_ret ?_ | with_reducible refine ws_if ?_ | with_reducible refine ws_next ?_ | with_reducible refine ws_retN ?_ | with_reducible refine ws_brk ?_ | with_reducible refine ws_cont ?_ | with_reducible refine ws_drop ?_ | with_reducible refine ws_setI ?_ | with_reducible refine ws_for ?_ | with_reducible refine ws_par ?_ | with_reducible refine ws_frz ?_ | with_reducible refine ws_parO ?_ | with_reducible refine ws_setOwn ?_ | with_reducible refine ⟨fun _ => ?_, fun z => absurd rfl z⟩ | refine And.intro rt_nx fun _ => ?_ | refine And.intro bk_nx fun _ => ?_ | refine And.intro ct_nx fun _ => ?_ | with_reducible refine w_c2 ?_ | with_reducible refine w_c1 ?_ | with_reducible refine w_cA ?_ | with_reducible refine w_cons ?_ | with_reducible refine w_nil ?_ | with_reducible refine w_c ?_ | with_reducible refine w_call ?_ | with_reducible refine w_it ?_ | with_reducible refine w_rng1 ?_ | with_reducible refine w_rng2 ?_ | with_reducible refine w_m0 ?_ | with_reducible refine w_m1 ?_ | with_reducible refine w_sl ?_ | with_reducible refine w_part ?_ | with_reducible refine w_noP ?_ | with_reducible refine w_b ?_ | with_reducible refine w_notB ?_ | with_reducible refine w_if ?_ | with_reducible refine w_chain ?_ | with_reducible refine w_zip ?_ | with_reducible refine w_enum ?_ | with_reducible refine wg_add ?_ | with_reducible refine wg_sub ?_ | with_reducible refine wg_neg ?_ | with_reducible refine wg_lt ?_ | with_reducible refine wg_le ?_ | with_reducible refine wg_gt ?_ | with_reducible refine wg_ge ?_ | with_reducible refine wg_not ?_ | with_reducible refine wg_lenL ?_ | with_reducible refine wg_lenT ?_ | with_reducible refine wg_lenC ?_ | with_reducible refine wg_int ?_ | with_reducible refine wg_intB ?_ | with_reducible refine wg_abs ?_ | with_reducible refine wg_max2 ?_ | with_reducible refine wg_min2 ?_ | with_reducible refine wg_reprB ?_ | with_reducible refine wg_itL ?_ | with_reducible refine wg_itT ?_ | with_reducible refine wg_itC ?_ | with_reducible refine wg_itS ?_ | with_reducible refine wg_slL ?_ | with_reducible refine wg_slT ?_ | with_reducible refine wg_tupleL ?_ | with_reducible refine wg_tupleT ?_ | with_reducible refine wg_listL ?_ | with_reducible refine wg_listT ?_ | with_reducible refine wg_revL ?_ | with_reducible refine wg_revT ?_ | with_reducible refine wg_zipT ?_ | with_reducible refine wg_allM ?_ | with_reducible refine wg_anyM ?_ | with_reducible refine w_var (by with_unfolding_all rfl) ?_ | with_reducible refine wg_mul (Or.inr (by decide)) ?_ | with_reducible refine wg_mul (Or.inl (by decide)) ?_ | with_reducible refine wg_mod (by decide +kernel) ?_ | with_reducible refine wg_fdiv (by decide) ?_ | with_reducible refine wg_pow (by decide +kernel) ?_ | with_reducible refine wg_tup (by simp; done) ?_ | with_reducible refine wg_lst (by simp; done) ?_ | with_reducible refine w_dieSet (by decide) ?_ | with_reducible refine w_dieAt (by decide) (fun _ => ?_) | refine ⟨_, rfl, ?_⟩ | refine ⟨rfl, ?_⟩))
      refine (w_greatest B1).imp (fun r hr => ?_) fun _ _ x => x
      subst hr
      (repeat (first | with_reducible refine ws_seq ?_ | with_reducible refine ws_asg ?_ | with_reducible refine ws_ret ?_ | with_reducible refine ws_if ?_ | with_reducible refine ws_next ?_ | with_reducible refine ws_retN ?_ | with_reducible refine ws_brk ?_ | with_reducible refine ws_cont ?_ | with_reducible refine ws_drop ?_ | with_reducible refine ws_setI ?_ | with_reducible refine ws_for ?_ | with_reducible refine ws_par ?_ | with_reducible refine ws_frz ?_ | with_reducible refine ws_parO ?_ | with_reducible refine ws_setOwn ?_ | with_reducible refine ⟨fun _ => ?_, fun z => absurd rfl z⟩ | refine And.intro rt_nx fun _ => ?_ | refine And.intro bk_nx fun _ => ?_ | refine And.intro ct_nx fun _ => ?_ | with_reducible refine w_c2 ?_ | with_reducible refine w_c1 ?_ | with_reducible refine w_cA ?_ | with_reducible refine w_cons ?_ | with_reducible refine w_nil ?_ | with_reducible refine w_c ?_ | with_reducible refine w_call ?_ | with_reducible refine w_it ?_ | with_reducible refine w_rng1 ?_ | with_reducible refine w_rng2 ?_ | with_reducible refine w_m0 ?_ | with_reducible refine w_m1 ?_ | with_reducible refine w_sl ?_ | with_reducible refine w_part ?_ | with_reducible refine w_noP ?_ | with_reducible refine w_b ?_ | with_reducible refine w_notB ?_ | with_reducible refine w_if ?_ | with_reducible refine w_chain ?_ | with_reducible refine w_zip ?_ | with_reducible refine w_enum ?_ | with_reducible refine wg_add ?_ | with_reducible refine wg_sub ?_ | with_reducible refine wg_neg ?_ | with_reducible refine wg_lt ?_ | with_reducible refine wg_le ?_ | with_reducible refine wg_gt ?_ | with_reducible refine wg_ge ?_ | with_reducible refine wg_not ?_ | with_reducible refine wg_lenL ?_ | with_reducible refine wg_lenT ?_ | with_reducible refine wg_lenC ?_ | with_reducible refine wg_int ?_ | with_reducible refine wg_intB ?_ | with_reducible refine wg_abs ?_ | with_reducible refine wg_max2 ?_ | with_reducible refine wg_min2 ?_ | with_reducible refine wg_reprB ?_ | with_reducible refine wg_itL ?_ | with_reducible refine wg_itT ?_ | with_reducible refine wg_itC ?_ | with_reducible refine wg_itS ?_ | with_reducible refine wg_slL ?_ | with_reducible refine wg_slT ?_ | with_reducible refine wg_tupleL ?_ | with_reducible refine wg_tupleT ?_ | with_reducible refine wg_listL ?_ | with_reducible refine wg_listT ?_ | with_reducible refine wg_revL ?_ | with_reducible refine wg_revT ?_ | with_reducible refine wg_zipT ?_ | with_reducible refine wg_allM ?_ | with_reducible refine wg_anyM ?_ | with_reducible refine w_var (by with_unfolding_all rfl) ?_ | with_reducible refine wg_mul (Or.inr (by decide)) ?_ | with_reducible refine wg_mul (Or.inl (by decide)) ?_ | with_reducible refine wg_mod (by decide +kernel) ?_ | with_reducible refine wg_fdiv (by decide) ?_ | with_reducible refine wg_pow (by decide +kernel) ?_ | with_reducible refine wg_tup (by simp; done) ?_ | with_reducible refine wg_lst (by simp; done) ?_ | with_reducible refine w_dieSet (by decide) ?_ | with_reducible refine w_dieAt (by decide) (fun _ => ?_) | refine ⟨_, rfl, ?_⟩ | refine ⟨rfl, ?_⟩))
      refine w_var (g2 _) ?_
      (repeat (first | with_reducible refine ws_seq ?_ | with_reducible refine ws_asg ?_ | with_reducible refine ws_ret ?_ | with_reducible refine ws_if ?_ | with_reducible refine ws_next ?_ | with_reducible refine ws_retN ?_ | with_reducible refine ws_brk ?_ | with_reducible refine ws_cont ?_ | with_reducible refine ws_drop ?_ | with_reducible refine ws_setI ?_ | with_reducible refine ws_for ?_ | with_reducible refine ws_par ?_ | with_reducible refine ws_frz ?_ | with_reducible refine ws_parO ?_ | with_reducible refine ws_setOwn ?_ | with_reducible refine ⟨fun _ => ?_, fun z => absurd rfl z⟩ | refine And.intro rt_nx fun _ => ?_ | refine And.intro bk_nx fun _ => ?_ | refine And.intro ct_nx fun _ => ?_ | with_reducible refine w_c2 ?_ | with_reducible refine w_c1 ?_ | with_reducible refine w_cA ?_ | with_reducible refine w_cons ?_ | with_reducible refine w_nil ?_ | with_reducible refine w_c ?_ | with_reducible refine w_call ?_ | with_reducible refine w_it ?_ | with_reducible refine w_rng1 ?_ | with_reducible refine w_rng2 ?_ | with_reducible refine w_m0 ?_ | with_reducible refine w_m1 ?_ | with_reducible refine w_sl ?_ | with_reducible refine w_part ?_ | with_reducible refine w_noP ?_ | with_reducible refine w_b ?_ | with_reducible refine w_notB ?_ | with_reducible refine w_if ?_ | with_reducible refine w_chain ?_ | with_reducible refine w_zip ?_ | with_reducible refine w_enum ?_ | with_reducible refine wg_add ?_ | with_reducible refine wg_sub ?_ | with_reducible refine wg_neg ?_ | with_reducible refine wg_lt ?_ | with_reducible refine wg_le ?_ | with_reducible refine wg_gt ?_ | with_reducible refine wg_ge ?_ | with_reducible refine wg_not ?_ | with_reducible refine wg_lenL ?_ | with_reducible refine wg_lenT ?_ | with_reducible refine wg_lenC ?_ | with_reducible refine wg_int ?_ | with_reducible refine wg_intB ?_ | with_reducible refine wg_abs ?_ | with_reducible refine wg_max2 ?_ | with_reducible refine wg_min2 ?_ | with_reducible refine wg_reprB ?_ | with_reducible refine wg_itL ?_ | with_reducible refine wg_itT ?_ | with_reducible refine wg_itC ?_ | with_reducible refine wg_itS ?_ | with_reducible refine wg_slL ?_ | with_reducible refine wg_slT ?_ | with_reducible refine wg_tupleL ?_ | with_reducible refine wg_tupleT ?_ | with_reducible refine wg_listL ?_ | with_reducible refine wg_listT ?_ | with_reducible refine wg_revL ?_ | with_reducible refine wg_revT ?_ | with_reducible refine wg_zipT ?_ | with_reducible refine wg_allM ?_ | with_reducible refine wg_anyM ?_ | with_reducible refine w_var (by with_unfolding_all rfl) ?_ | with_reducible refine wg_mul (Or.inr (by decide)) ?_ | with_reducible refine wg_mul (Or.inl (by decide)) ?_ | with_reducible refine wg_mod (by decide +kernel) ?_ | with_reducible refine wg_fdiv (by decide) ?_ | with_reducible refine wg_pow (by decide +kernel) ?_ | with_reducible refine wg_tup (by simp; done) ?_ | with_reducible refine wg_lst (by simp; done) ?_ | with_reducible refine w_dieSet (by decide) ?_ | with_reducible refine w_dieAt (by decide) (fun _ => ?_) | refine ⟨_, rfl, ?_⟩ | refine ⟨rfl, ?_⟩))
      refine (w_least B1).imp (fun r hr => ?_) fun _ _ x => x
      subst hr
      (repeat (first | with_reducible refine ws_seq ?_ | with_reducible refine ws_asg ?_ | with_reducible refine ws_ret ?_ | with_reducible refine ws_if ?_ | with_reducible refine ws_next ?_ | with_reducible refine ws_retN ?_ | with_reducible refine ws_brk ?_ | with_reducible refine ws_cont ?_ | with_reducible refine ws_drop ?_ | with_reducible refine ws_setI ?_ | with_reducible refine ws_for ?_ | with_reducible refine ws_par ?_ | with_reducible refine ws_frz ?_ | with_reducible refine ws_parO ?_ | with_reducible refine ws_setOwn ?_ | with_reducible refine ⟨fun _ => ?_, fun z => absurd rfl z⟩ | refine And.intro rt_nx fun _ => ?_ | refine And.intro bk_nx fun _ => ?_ | refine And.intro ct_nx fun _ => ?_ | with_reducible refine w_c2 ?_ | with_reducible refine w_c1 ?_ | with_reducible refine w_cA ?_ | with_reducible refine w_cons ?_ | with_reducible refine w_nil ?_ | with_reducible refine w_c ?_ | with_reducible refine w_call ?_ | with_reducible refine w_it ?_ | with_reducible refine w_rng1 ?_ | with_reducible refine w_rng2 ?_ | with_reducible refine w_m0 ?_ | with_reducible refine w_m1 ?_ | with_reducible refine w_sl ?_ | with_reducible refine w_part ?_ | with_reducible refine w_noP ?_ | with_reducible refine w_b ?_ | with_reducible refine w_notB ?_ | with_reducible refine w_if ?_ | with_reducible refine w_chain ?_ | with_reducible refine w_zip ?_ | with_reducible refine w_enum ?_ | with_reducible refine wg_add ?_ | with_reducible refine wg_sub ?_ | with_reducible refine wg_neg ?_ | with_reducible refine wg_lt ?_ | with_reducible refine wg_le ?_ | with_reducible refine wg_gt ?_ | with_reducible refine wg_ge ?_ | with_reducible refine wg_not ?_ | with_reducible refine wg_lenL ?_ | with_reducible refine wg_lenT ?_ | with_reducible refine wg_lenC ?_ | with_reducible refine wg_int ?_ | with_reducible refine wg_intB ?_ | with_reducible refine wg_abs ?_ | with_reducible refine wg_max2 ?_ | with_reducible refine wg_min2 ?_ | with_reducible refine wg_reprB ?_ | with_reducible refine wg_itL ?_ | with_reducible refine wg_itT ?_ | with_reducible refine wg_itC ?_ | with_reducible refine wg_itS ?_ | with_reducible refine wg_slL ?_ | with_reducible refine wg_slT ?_ | with_reducible refine wg_tupleL ?_ | with_reducible refine wg_tupleT ?_ | with_reducible refine wg_listL ?_ | with_reducible refine wg_listT ?_ | with_reducible refine wg_revL ?_ | with_reducible refine wg_revT ?_ | with_reducible refine wg_zipT ?_ | with_reducible refine wg_allM ?_ | with_reducible refine wg_anyM ?_ | with_reducible refine w_var (by with_unfolding_all rfl) ?_ | with_reducible refine wg_mul (Or.inr (by decide)) ?_ | with_reducible refine wg_mul (Or.inl (by decide)) ?_ | with_reducible refine wg_mod (by decide +kernel) ?_ | with_reducible refine wg_fdiv (by decide) ?_ | with_reducible refine wg_pow (by decide +kernel) ?_ | with_reducible refine wg_tup (by simp; done) ?_ | with_reducible refine wg_lst (by simp; done) ?_ | with_reducible refine w_dieSet (by decide) ?_ | with_reducible refine w_dieAt (by decide) (fun _ => ?_) | refine ⟨_, rfl, ?_⟩ | refine ⟨rfl, ?_⟩))
      refine wg_ne (b := true) (by decide +kernel) ⟨_, rfl, fun h => (nomatch h), fun _ => ?_⟩
      (repeat (first | with_reducible refine ws_seq ?_ | with_reducible refine ws_asg ?_ | with_reducible refine ws_ret ?_ | with_reducible refine ws_if ?_ | with_reducible refine ws_next ?_ | with_reducible refine ws_retN ?_ | with_reducible refine ws_brk ?_ | with_reducible refine ws_cont ?_ | with_reducible refine ws_drop ?_ | with_reducible refine ws_setI ?_ | with_reducible refine ws_for ?_ | with_reducible refine ws_par ?_ | with_reducible refine ws_frz ?_ | with_reducible refine ws_parO ?_ | with_reducible refine ws_setOwn ?_ | with_reducible refine ⟨fun _ => ?_, fun z => absurd rfl z⟩ | refine And.intro rt_nx fun _ => ?_ | refine And.intro bk_nx fun _ => ?_ | refine And.intro ct_nx fun _ => ?_ | with_reducible refine w_c2 ?_ | with_reducible refine w_c1 ?_ | with_reducible refine w_cA ?_ | with_reducible refine w_cons ?_ | with_reducible refine w_nil ?_ | with_reducible refine w_c ?_ | with_reducible refine w_call ?_ | with_reducible refine w_it ?_ | with_reducible refine w_rng1 ?_ | with_reducible refine w_rng2 ?_ | with_reducible refine w_m0 ?_ | with_reducible refine w_m1 ?_ | with_reducible refine w_sl ?_ | with_reducible refine w_part ?_ | with_reducible refine w_noP ?_ | with_reducible refine w_b ?_ | with_reducible refine w_notB ?_ | with_reducible refine w_if ?_ | with_reducible refine w_chain ?_ | with_reducible refine w_zip ?_ | with_reducible refine w_enum ?_ | with_reducible refine wg_add ?_ | with_reducible refine wg_sub ?_ | with_reducible refine wg_neg ?_ | with_reducible refine wg_lt ?_ | with_reducible refine wg_le ?_ | with_reducible refine wg_gt ?_ | with_reducible refine wg_ge ?_ | with_reducible refine wg_not ?_ | with_reducible refine wg_lenL ?_ | with_reducible refine wg_lenT ?_ | with_reducible refine wg_lenC ?_ | with_reducible refine wg_int ?_ | with_reducible refine wg_intB ?_ | with_reducible refine wg_abs ?_ | with_reducible refine wg_max2 ?_ | with_reducible refine wg_min2 ?_ | with_reducible refine wg_reprB ?_ | with_reducible refine wg_itL ?_ | with_reducible refine wg_itT ?_ | with_reducible refine wg_itC ?_ | with_reducible refine wg_itS ?_ | with_reducible refine wg_slL ?_ | with_reducible refine wg_slT ?_ | with_reducible refine wg_tupleL ?_ | with_reducible refine wg_tupleT ?_ | with_reducible refine wg_listL ?_ | with_reducible refine wg_listT ?_ | with_reducible refine wg_revL ?_ | with_reducible refine wg_revT ?_ | with_reducible refine wg_zipT ?_ | with_reducible refine wg_allM ?_ | with_reducible refine wg_anyM ?_ | with_reducible refine w_var (by with_unfolding_all rfl) ?_ | with_reducible refine wg_mul (Or.inr (by decide)) ?_ | with_reducible refine wg_mul (Or.inl (by decide)) ?_ | with_reducible refine wg_mod (by decide +kernel) ?_ | with_reducible refine wg_fdiv (by decide) ?_ | with_reducible refine wg_pow (by decide +kernel) ?_ | with_reducible refine wg_tup (by simp; done) ?_ | with_reducible refine wg_lst (by simp; done) ?_ | with_reducible refine w_dieSet (by decide) ?_ | with_reducible refine w_dieAt (by decide) (fun _ => ?_) | refine ⟨_, rfl, ?_⟩ | refine ⟨rfl, ?_⟩))
      refine (w_greatest B2).imp (fun r hr => ?_) fun _ _ x => x
      subst hr
      (repeat (first | with_reducible refine ws_seq ?_ | with_reducible refine ws_asg ?_ | with_reducible refine ws_ret ?_ | with_reducible refine ws_if ?_ | with_reducible refine ws_next ?_ | with_reducible refine ws_retN ?_ | with_reducible refine ws_brk ?_ | with_reducible refine ws_cont ?_ | with_reducible refine ws_drop ?_ | with_reducible refine ws_setI ?_ | with_reducible refine ws_for ?_ | with_reducible refine ws_par ?_ | with_reducible refine ws_frz ?_ | with_reducible refine ws_parO ?_ | with_reducible refine ws_setOwn ?_ | with_reducible refine ⟨fun _ => ?_, fun z => absurd rfl z⟩ | refine And.intro rt_nx fun _ => ?_ | refine And.intro bk_nx fun _ => ?_ | refine And.intro ct_nx fun _ => ?_ | with_reducible refine w_c2 ?_ | with_reducible refine w_c1 ?_ | with_reducible refine w_cA ?_ | with_reducible refine w_cons ?_ | with_reducible refine w_nil ?_ | with_reducible refine w_c ?_ | with_reducible refine w_call ?_ | with_reducible refine w_it ?_ | with_reducible refine w_rng1 ?_ | with_reducible refine w_rng2 ?_ | with_reducible refine w_m0 ?_ | with_reducible refine w_m1 ?_ | with_reducible refine w_sl ?_ | with_reducible refine w_part ?_ | with_reducible refine w_noP ?_ | with_reducible refine w_b ?_ | with_reducible refine w_notB ?_ | with_reducible refine w_if ?_ | with_reducible refine w_chain ?_ | with_reducible refine w_zip ?_ | with_reducible refine w_enum ?_ | with_reducible refine wg_add ?_ | with_reducible refine wg_sub ?_ | with_reducible refine wg_neg ?_ | with_reducible refine wg_lt ?_ | with_reducible refine wg_le ?_ | with_reducible refine wg_gt ?_ | with_reducible refine wg_ge ?_ | with_reducible refine wg_not ?_ | with_reducible refine wg_lenL ?_ | with_reducible refine wg_lenT ?_ | with_reducible refine wg_lenC ?_ | with_reducible refine wg_int ?_ | with_reducible refine wg_intB ?_ | with_reducible refine wg_abs ?_ | with_reducible refine wg_max2 ?_ | with_reducible refine wg_min2 ?_ | with_reducible refine wg_reprB ?_ | with_reducible refine wg_itL ?_ | with_reducible refine wg_itT ?_ | with_reducible refine wg_itC ?_ | with_reducible refine wg_itS ?_ | with_reducible refine wg_slL ?_ | with_reducible refine wg_slT ?_ | with_reducible refine wg_tupleL ?_ | with_reducible refine wg_tupleT ?_ | with_reducible refine wg_listL ?_ | with_reducible refine wg_listT ?_ | with_reducible refine wg_revL ?_ | with_reducible refine wg_revT ?_ | with_reducible refine wg_zipT ?_ | with_reducible refine wg_allM ?_ | with_reducible refine wg_anyM ?_ | with_reducible refine w_var (by with_unfolding_all rfl) ?_ | with_reducible refine wg_mul (Or.inr (by decide)) ?_ | with_reducible refine wg_mul (Or.inl (by decide)) ?_ | with_reducible refine wg_mod (by decide +kernel) ?_ | with_reducible refine wg_fdiv (by decide) ?_ | with_reducible refine wg_pow (by decide +kernel) ?_ | with_reducible refine wg_tup (by simp; done) ?_ | with_reducible refine wg_lst (by simp; done) ?_ | with_reducible refine w_dieSet (by decide) ?_ | with_reducible refine w_dieAt (by decide) (fun _ => ?_) | refine ⟨_, rfl, ?_⟩ | refine ⟨rfl, ?_⟩))
      refine (w_least B2).imp (fun r hr => ?_) fun _ _ x => x
      subst hr
      (repeat (first | with_reducible refine ws_seq ?_ | with_reducible refine ws_asg ?_ | with_reducible refine ws_ret ?_ | with_reducible refine ws_if ?_ | with_reducible refine ws_next ?_ | with_reducible refine ws_retN ?_ | with_reducible refine ws_brk ?_ | with_reducible refine ws_cont ?_ | with_reducible refine ws_drop ?_ | with_reducible refine ws_setI ?_ | with_reducible refine ws_for ?_ | with_reducible refine ws_par ?_ | with_reducible refine ws_frz ?_ | with_reducible refine ws_parO ?_ | with_reducible refine ws_setOwn ?_ | with_reducible refine ⟨fun _ => ?_, fun z => absurd rfl z⟩ | refine And.intro rt_nx fun _ => ?_ | refine And.intro bk_nx fun _ => ?_ | refine And.intro ct_nx fun _ => ?_ | with_reducible refine w_c2 ?_ | with_reducible refine w_c1 ?_ | with_reducible refine w_cA ?_ | with_reducible refine w_cons ?_ | with_reducible refine w_nil ?_ | with_reducible refine w_c ?_ | with_reducible refine w_call ?_ | with_reducible refine w_it ?_ | with_reducible refine w_rng1 ?_ | with_reducible refine w_rng2 ?_ | with_reducible refine w_m0 ?_ | with_reducible refine w_m1 ?_ | with_reducible refine w_sl ?_ | with_reducible refine w_part ?_ | with_reducible refine w_noP ?_ | with_reducible refine w_b ?_ | with_reducible refine w_notB ?_ | with_reducible refine w_if ?_ | with_reducible refine w_chain ?_ | with_reducible refine w_zip ?_ | with_reducible refine w_enum ?_ | with_reducible refine wg_add ?_ | with_reducible refine wg_sub ?_ | with_reducible refine wg_neg ?_ | with_reducible refine wg_lt ?_ | with_reducible refine wg_le ?_ | with_reducible refine wg_gt ?_ | with_reducible refine wg_ge ?_ | with_reducible refine wg_not ?_ | with_reducible refine wg_lenL ?_ | with_reducible refine wg_lenT ?_ | with_reducible refine wg_lenC ?_ | with_reducible refine wg_int ?_ | with_reducible refine wg_intB ?_ | with_reducible refine wg_abs ?_ | with_reducible refine wg_max2 ?_ | with_reducible refine wg_min2 ?_ | with_reducible refine wg_reprB ?_ | with_reducible refine wg_itL ?_ | with_reducible refine wg_itT ?_ | with_reducible refine wg_itC ?_ | with_reducible refine wg_itS ?_ | with_reducible refine wg_slL ?_ | with_reducible refine wg_slT ?_ | with_reducible refine wg_tupleL ?_ | with_reducible refine wg_tupleT ?_ | with_reducible refine wg_listL ?_ | with_reducible refine wg_listT ?_ | with_reducible refine wg_revL ?_ | with_reducible refine wg_revT ?_ | with_reducible refine wg_zipT ?_ | with_reducible refine wg_allM ?_ | with_reducible refine wg_anyM ?_ | with_reducible refine w_var (by with_unfolding_all rfl) ?_ | with_reducible refine wg_mul (Or.inr (by decide)) ?_ | with_reducible refine wg_mul (Or.inl (by decide)) ?_ | with_reducible refine wg_mod (by decide +kernel) ?_ | with_reducible refine wg_fdiv (by decide) ?_ | with_reducible refine wg_pow (by decide +kernel) ?_ | with_reducible refine wg_tup (by simp; done) ?_ | with_reducible refine wg_lst (by simp; done) ?_ | with_reducible refine w_dieSet (by decide) ?_ | with_reducible refine w_dieAt (by decide) (fun _ => ?_) | refine ⟨_, rfl, ?_⟩ | refine ⟨rfl, ?_⟩))
      refine (w_greatest B3).imp (fun r hr => ?_) fun _ _ x => x
      subst hr
      (repeat (first | with_reducible refine ws_seq ?_ | with_reducible refine ws_asg ?_ | with_reducible refine ws_ret ?_ | with_reducible refine ws_if ?_ | with_reducible refine ws_next ?_ | with_reducible refine ws_retN ?_ | with_reducible refine ws_brk ?_ | with_reducible refine ws_cont ?_ | with_reducible refine ws_drop ?_ | with_reducible refine ws_setI ?_ | with_reducible refine ws_for ?_ | with_reducible refine ws_par ?_ | with_reducible refine ws_frz ?_ | with_reducible refine ws_parO ?_ | with_reducible refine ws_setOwn ?_ | with_reducible refine ⟨fun _ => ?_, fun z => absurd rfl z⟩ | refine And.intro rt_nx fun _ => ?_ | refine And.intro bk_nx fun _ => ?_ | refine And.intro ct_nx fun _ => ?_ | with_reducible refine w_c2 ?_ | with_reducible refine w_c1 ?_ | with_reducible refine w_cA ?_ | with_reducible refine w_cons ?_ | with_reducible refine w_nil ?_ | with_reducible refine w_c ?_ | with_reducible refine w_call ?_ | with_reducible refine w_it ?_ | with_reducible refine w_rng1 ?_ | with_reducible refine w_rng2 ?_ | with_reducible refine w_m0 ?_ | with_reducible refine w_m1 ?_ | with_reducible refine w_sl ?_ | with_reducible refine w_part ?_ | with_reducible refine w_noP ?_ | with_reducible refine w_b ?_ | with_reducible refine w_notB ?_ | with_reducible refine w_if ?_ | with_reducible refine w_chain ?_ | with_reducible refine w_zip ?_ | with_reducible refine w_enum ?_ | with_reducible refine wg_add ?_ | with_reducible refine wg_sub ?_ | with_reducible refine wg_neg ?_ | with_reducible refine wg_lt ?_ | with_reducible refine wg_le ?_ | with_reducible refine wg_gt ?_ | with_reducible refine wg_ge ?_ | with_reducible refine wg_not ?_ | with_reducible refine wg_lenL ?_ | with_reducible refine wg_lenT ?_ | with_reducible refine wg_lenC ?_ | with_reducible refine wg_int ?_ | with_reducible refine wg_intB ?_ | with_reducible refine wg_abs ?_ | with_reducible refine wg_max2 ?_ | with_reducible refine wg_min2 ?_ | with_reducible refine wg_reprB ?_ | with_reducible refine wg_itL ?_ | with_reducible refine wg_itT ?_ | with_reducible refine wg_itC ?_ | with_reducible refine wg_itS ?_ | with_reducible refine wg_slL ?_ | with_reducible refine wg_slT ?_ | with_reducible refine wg_tupleL ?_ | with_reducible refine wg_tupleT ?_ | with_reducible refine wg_listL ?_ | with_reducible refine wg_listT ?_ | with_reducible refine wg_revL ?_ | with_reducible refine wg_revT ?_ | with_reducible refine wg_zipT ?_ | with_reducible refine wg_allM ?_ | with_reducible refine wg_anyM ?_ | with_reducible refine w_var (by with_unfolding_all rfl) ?_ | with_reducible refine wg_mul (Or.inr (by decide)) ?_ | with_reducible refine wg_mul (Or.inl (by decide)) ?_ | with_reducible refine wg_mod (by decide +kernel) ?_ | with_reducible refine wg_fdiv (by decide) ?_ | with_reducible refine wg_pow (by decide +kernel) ?_ | with_reducible refine wg_tup (by simp; done) ?_ | with_reducible refine wg_lst (by simp; done) ?_ | with_reducible refine w_dieSet (by decide) ?_ | with_reducible refine w_dieAt (by decide) (fun _ => ?_) | refine ⟨_, rfl, ?_⟩ | refine ⟨rfl, ?_⟩))
      refine wg_eqX (b := true) (eqX_of (by decide +kernel)) ?_
      (repeat (first | with_reducible refine ws_seq ?_ | with_reducible refine ws_asg ?_ | with_reducible refine ws_ret ?_ | with_reducible refine ws_if ?_ | with_reducible refine ws_next ?_ | with_reducible refine ws_retN ?_ | with_reducible refine ws_brk ?_ | with_reducible refine ws_cont ?_ | with_reducible refine ws_drop ?_ | with_reducible refine ws_setI ?_ | with_reducible refine ws_for ?_ | with_reducible refine ws_par ?_ | with_reducible refine ws_frz ?_ | with_reducible refine ws_parO ?_ | with_reducible refine ws_setOwn ?_ | with_reducible refine ⟨fun _ => ?_, fun z => absurd rfl z⟩ | refine And.intro rt_nx fun _ => ?_ | refine And.intro bk_nx fun _ => ?_ | refine And.intro ct_nx fun _ => ?_ | with_reducible refine w_c2 ?_ | with_reducible refine w_c1 ?_ | with_reducible refine w_cA ?_ | with_reducible refine w_cons ?_ | with_reducible refine w_nil ?_ | with_reducible refine w_c ?_ | with_reducible refine w_call ?_ | with_reducible refine w_it ?_ | with_reducible refine w_rng1 ?_ | with_reducible refine w_rng2 ?_ | with_reducible refine w_m0 ?_ | with_reducible refine w_m1 ?_ | with_reducible refine w_sl ?_ | with_reducible refine w_part ?_ | with_reducible refine w_noP ?_ | with_reducible refine w_b ?_ | with_reducible refine w_notB ?_ | with_reducible refine w_if ?_ | with_reducible refine w_chain ?_ | with_reducible refine w_zip ?_ | with_reducible refine w_enum ?_ | with_reducible refine wg_add ?_ | with_reducible refine wg_sub ?_ | with_reducible refine wg_neg ?_ | with_reducible refine wg_lt ?_ | with_reducible refine wg_le ?_ | with_reducible refine wg_gt ?_ | with_reducible refine wg_ge ?_ | with_reducible refine wg_not ?_ | with_reducible refine wg_lenL ?_ | with_reducible refine wg_lenT ?_ | with_reducible refine wg_lenC ?_ | with_reducible refine wg_int ?_ | with_reducible refine wg_intB ?_ | with_reducible refine wg_abs ?_ | with_reducible refine wg_max2 ?_ | with_reducible refine wg_min2 ?_ | with_reducible refine wg_reprB ?_ | with_reducible refine wg_itL ?_ | with_reducible refine wg_itT ?_ | with_reducible refine wg_itC ?_ | with_reducible refine wg_itS ?_ | with_reducible refine wg_slL ?_ | with_reducible refine wg_slT ?_ | with_reducible refine wg_tupleL ?_ | with_reducible refine wg_tupleT ?_ | with_reducible refine wg_listL ?_ | with_reducible refine wg_listT ?_ | with_reducible refine wg_revL ?_ | with_reducible refine wg_revT ?_ | with_reducible refine wg_zipT ?_ | with_reducible refine wg_allM ?_ | with_reducible refine wg_anyM ?_ | with_reducible refine w_var (by with_unfolding_all rfl) ?_ | with_reducible refine wg_mul (Or.inr (by decide)) ?_ | with_reducible refine wg_mul (Or.inl (by decide)) ?_ | with_reducible refine wg_mod (by decide +kernel) ?_ | with_reducible refine wg_fdiv (by decide) ?_ | with_reducible refine wg_pow (by decide +kernel) ?_ | with_reducible refine wg_tup (by simp; done) ?_ | with_reducible refine wg_lst (by simp; done) ?_ | with_reducible refine w_dieSet (by decide) ?_ | with_reducible refine w_dieAt (by decide) (fun _ => ?_) | refine ⟨_, rfl, ?_⟩ | refine ⟨rfl, ?_⟩))
      rfl
    · intro d hd
      unfold rngD at hd
      obtain ⟨k, _, rfl⟩ := List.mem_map.mp hd
      exact ⟨k, by rw [Int.zero_add]⟩
  obtain ⟨a, S', e, rfl, _⟩ := h.run (S := []) trivial
  exact ⟨S', e⟩
end K03
namespace K03
open PySem PySem.Spec PyProof.Rows L2 DN
theorem all_mk {l : PySem.W.OpenLaw} {w : World} {K : PySem.W.Frag} {h : Heap} {mg : Str → Option Value} {fa : Addr} (X : K.In h) (G : h.Ns mainGlobals mg) (hfa : mg "law" = some (.ref fa))
    {od0 an0 : Option Addr} {sl0 : Array (Option Value)} {oc0 kV0 dc0 pm0 cd0 ct0 : Value} {f0 : Addr} {od1 an1 : Option Addr} {sl1 : Array (Option Value)} {oc1 kV1 dc1 pm1 cd1 ct1 : Value} {f1 : Addr} {od2 an2 : Option Addr} {sl2 : Array (Option Value)} {oc2 kV2 dc2 pm2 cd2 ct2 : Value} {f2 : Addr} {od3 an3 : Option Addr} {sl3 : Array (Option Value)} {oc3 kV3 dc3 pm3 cd3 ct3 : Value} {f3 : Addr} {od4 an4 : Option Addr} {sl4 : Array (Option Value)} {oc4 kV4 dc4 pm4 cd4 ct4 : Value} {f4 : Addr} {od5 an5 : Option Addr} {sl5 : Array (Option Value)} {oc5 kV5 dc5 pm5 cd5 ct5 : Value} {f5 : Addr} {od6 an6 : Option Addr} {sl6 : Array (Option Value)} {oc6 kV6 dc6 pm6 cd6 ct6 : Value} {f6 : Addr} {od7 an7 : Option Addr} {sl7 : Array (Option Value)} {oc7 kV7 dc7 pm7 cd7 ct7 : Value} {f7 : Addr} {od8 an8 : Option Addr} {sl8 : Array (Option Value)} {oc8 kV8 dc8 pm8 cd8 ct8 : Value} {f8 : Addr} {od9 an9 : Option Addr} {sl9 : Array (Option Value)} {oc9 kV9 dc9 pm9 cd9 ct9 : Value} {f9 : Addr} {od10 an10 : Option Addr} {sl10 : Array (Option Value)} {oc10 kV10 dc10 pm10 cd10 ct10 : Value} {f10 : Addr} {od11 an11 : Option Addr} {sl11 : Array (Option Value)} {oc11 kV11 dc11 pm11 cd11 ct11 : Value} {f11 : Addr} {od12 an12 : Option Addr} {sl12 : Array (Option Value)} {oc12 kV12 dc12 pm12 cd12 ct12 : Value} {f12 : Addr} {od13 an13 : Option Addr} {sl13 : Array (Option Value)} {oc13 kV13 dc13 pm13 cd13 ct13 : Value} {f13 : Addr} {od14 an14 : Option Addr} {sl14 : Array (Option Value)} {oc14 kV14 dc14 pm14 cd14 ct14 : Value} {f14 : Addr} {od15 an15 : Option Addr} {sl15 : Array (Option Value)} {oc15 kV15 dc15 pm15 cd15 ct15 : Value} {f15 : Addr} {od16 an16 : Option Addr} {sl16 : Array (Option Value)} {oc16 kV16 dc16 pm16 cd16 ct16 : Value} {f16 : Addr} {od17 an17 : Option Addr} {sl17 : Array (Option Value)} {oc17 kV17 dc17 pm17 cd17 ct17 : Value} {f17 : Addr} {od18 an18 : Option Addr} {sl18 : Array (Option Value)} {oc18 kV18 dc18 pm18 cd18 ct18 : Value} {f18 : Addr} {od19 an19 : Option Addr} {sl19 : Array (Option Value)} {oc19 kV19 dc19 pm19 cd19 ct19 : Value} {f19 : Addr} {tk_ANY : Tok} {tk_MAX_ENTRIES : Tok}
    (a0 : PySem.W.nsIn K mainGlobals "is_integer" = some (some (.ref f0))) (l0 : K.lookup f0 = some ⟨oc0, od0, .func (PySem.W.fnOf "is_integer" "is_integer" (defArgs s_is_integer) (defBody s_is_integer) (defScope s_is_integer) .none kV0 dc0 pm0 an0 cd0 ct0), sl0⟩) (c0 : PySem.W.codeIn K cd0 "is_integer" = true) (k0 : PySem.W.keepIn K (.ref f0) = true)
    (a1 : PySem.W.nsIn K mainGlobals "is_count" = some (some (.ref f1))) (l1 : K.lookup f1 = some ⟨oc1, od1, .func (PySem.W.fnOf "is_count" "is_count" (defArgs s_is_count) (defBody s_is_count) (defScope s_is_count) .none kV1 dc1 pm1 an1 cd1 ct1), sl1⟩) (c1 : PySem.W.codeIn K cd1 "is_count" = true) (k1 : PySem.W.keepIn K (.ref f1) = true)
    (a2 : PySem.W.nsIn K mainGlobals "is_wide" = some (some (.ref f2))) (l2 : K.lookup f2 = some ⟨oc2, od2, .func (PySem.W.fnOf "is_wide" "is_wide" (defArgs s_is_wide) (defBody s_is_wide) (defScope s_is_wide) .none kV2 dc2 pm2 an2 cd2 ct2), sl2⟩) (c2 : PySem.W.codeIn K cd2 "is_wide" = true) (k2 : PySem.W.keepIn K (.ref f2) = true)
    (a3 : PySem.W.nsIn K mainGlobals "is_entry_within" = some (some (.ref f3))) (l3 : K.lookup f3 = some ⟨oc3, od3, .func (PySem.W.fnOf "is_entry_within" "is_entry_within" (defArgs s_is_entry_within) (defBody s_is_entry_within) (defScope s_is_entry_within) .none kV3 dc3 pm3 an3 cd3 ct3), sl3⟩) (c3 : PySem.W.codeIn K cd3 "is_entry_within" = true) (k3 : PySem.W.keepIn K (.ref f3) = true)
    (a4 : PySem.W.nsIn K mainGlobals "is_plain_within" = some (some (.ref f4))) (l4 : K.lookup f4 = some ⟨oc4, od4, .func (PySem.W.fnOf "is_plain_within" "is_plain_within" (defArgs s_is_plain_within) (defBody s_is_plain_within) (defScope s_is_plain_within) .none kV4 dc4 pm4 an4 cd4 ct4), sl4⟩) (c4 : PySem.W.codeIn K cd4 "is_plain_within" = true) (k4 : PySem.W.keepIn K (.ref f4) = true)
    (a5 : PySem.W.nsIn K mainGlobals "sum_of" = some (some (.ref f5))) (l5 : K.lookup f5 = some ⟨oc5, od5, .func (PySem.W.fnOf "sum_of" "sum_of" (defArgs s_sum_of) (defBody s_sum_of) (defScope s_sum_of) .none kV5 dc5 pm5 an5 cd5 ct5), sl5⟩) (c5 : PySem.W.codeIn K cd5 "sum_of" = true) (k5 : PySem.W.keepIn K (.ref f5) = true)
    (a6 : PySem.W.nsIn K mainGlobals "greatest_of" = some (some (.ref f6))) (l6 : K.lookup f6 = some ⟨oc6, od6, .func (PySem.W.fnOf "greatest_of" "greatest_of" (defArgs s_greatest_of) (defBody s_greatest_of) (defScope s_greatest_of) .none kV6 dc6 pm6 an6 cd6 ct6), sl6⟩) (c6 : PySem.W.codeIn K cd6 "greatest_of" = true) (k6 : PySem.W.keepIn K (.ref f6) = true)
    (a7 : PySem.W.nsIn K mainGlobals "least_of" = some (some (.ref f7))) (l7 : K.lookup f7 = some ⟨oc7, od7, .func (PySem.W.fnOf "least_of" "least_of" (defArgs s_least_of) (defBody s_least_of) (defScope s_least_of) .none kV7 dc7 pm7 an7 cd7 ct7), sl7⟩) (c7 : PySem.W.codeIn K cd7 "least_of" = true) (k7 : PySem.W.keepIn K (.ref f7) = true)
    (a8 : PySem.W.nsIn K mainGlobals "require_two" = some (some (.ref f8))) (l8 : K.lookup f8 = some ⟨oc8, od8, .func (PySem.W.fnOf "require_two" "require_two" (defArgs s_require_two) (defBody s_require_two) (defScope s_require_two) .none kV8 dc8 pm8 an8 cd8 ct8), sl8⟩) (c8 : PySem.W.codeIn K cd8 "require_two" = true) (k8 : PySem.W.keepIn K (.ref f8) = true)
    (a9 : PySem.W.nsIn K mainGlobals "require_bags" = some (some (.ref f9))) (l9 : K.lookup f9 = some ⟨oc9, od9, .func (PySem.W.fnOf "require_bags" "require_bags" (defArgs s_require_bags) (defBody s_require_bags) (defScope s_require_bags) .none kV9 dc9 pm9 an9 cd9 ct9), sl9⟩) (c9 : PySem.W.codeIn K cd9 "require_bags" = true) (k9 : PySem.W.keepIn K (.ref f9) = true)
    (a10 : PySem.W.nsIn K mainGlobals "within" = some (some (.ref f10))) (l10 : K.lookup f10 = some ⟨oc10, od10, .func (PySem.W.fnOf "within" "within" (defArgs s_within) (defBody s_within) (defScope s_within) .none kV10 dc10 pm10 an10 cd10 ct10), sl10⟩) (c10 : PySem.W.codeIn K cd10 "within" = true) (k10 : PySem.W.keepIn K (.ref f10) = true)
    (a11 : PySem.W.nsIn K mainGlobals "added" = some (some (.ref f11))) (l11 : K.lookup f11 = some ⟨oc11, od11, .func (PySem.W.fnOf "added" "added" (defArgs s_added) (defBody s_added) (defScope s_added) .none kV11 dc11 pm11 an11 cd11 ct11), sl11⟩) (c11 : PySem.W.codeIn K cd11 "added" = true) (k11 : PySem.W.keepIn K (.ref f11) = true)
    (a12 : PySem.W.nsIn K mainGlobals "greatest" = some (some (.ref f12))) (l12 : K.lookup f12 = some ⟨oc12, od12, .func (PySem.W.fnOf "greatest" "greatest" (defArgs s_greatest) (defBody s_greatest) (defScope s_greatest) .none kV12 dc12 pm12 an12 cd12 ct12), sl12⟩) (c12 : PySem.W.codeIn K cd12 "greatest" = true) (k12 : PySem.W.keepIn K (.ref f12) = true)
    (a13 : PySem.W.nsIn K mainGlobals "least" = some (some (.ref f13))) (l13 : K.lookup f13 = some ⟨oc13, od13, .func (PySem.W.fnOf "least" "least" (defArgs s_least) (defBody s_least) (defScope s_least) .none kV13 dc13 pm13 an13 cd13 ct13), sl13⟩) (c13 : PySem.W.codeIn K cd13 "least" = true) (k13 : PySem.W.keepIn K (.ref f13) = true)
    (a14 : PySem.W.nsIn K mainGlobals "_law_numbers" = some (some (.ref f14))) (l14 : K.lookup f14 = some ⟨oc14, od14, .func (PySem.W.fnOf "_law_numbers" "_law_numbers" (defArgs s_law_numbers) (defBody s_law_numbers) (defScope s_law_numbers) .none kV14 dc14 pm14 an14 cd14 ct14), sl14⟩) (c14 : PySem.W.codeIn K cd14 "_law_numbers" = true) (k14 : PySem.W.keepIn K (.ref f14) = true)
    (a15 : PySem.W.nsIn K mainGlobals "_law_cast" = some (some (.ref f15))) (l15 : K.lookup f15 = some ⟨oc15, od15, .func (PySem.W.fnOf "_law_cast" "_law_cast" (defArgs s_law_cast) (defBody s_law_cast) (defScope s_law_cast) .none kV15 dc15 pm15 an15 cd15 ct15), sl15⟩) (c15 : PySem.W.codeIn K cd15 "_law_cast" = true) (k15 : PySem.W.keepIn K (.ref f15) = true)
    (a16 : PySem.W.nsIn K mainGlobals "_law_pick" = some (some (.ref f16))) (l16 : K.lookup f16 = some ⟨oc16, od16, .func (PySem.W.fnOf "_law_pick" "_law_pick" (defArgs s_law_pick) (defBody s_law_pick) (defScope s_law_pick) .none kV16 dc16 pm16 an16 cd16 ct16), sl16⟩) (c16 : PySem.W.codeIn K cd16 "_law_pick" = true) (k16 : PySem.W.keepIn K (.ref f16) = true)
    (a17 : PySem.W.nsIn K mainGlobals "_law_any_wide" = some (some (.ref f17))) (l17 : K.lookup f17 = some ⟨oc17, od17, .func (PySem.W.fnOf "_law_any_wide" "_law_any_wide" (defArgs s_law_any_wide) (defBody s_law_any_wide) (defScope s_law_any_wide) .none kV17 dc17 pm17 an17 cd17 ct17), sl17⟩) (c17 : PySem.W.codeIn K cd17 "_law_any_wide" = true) (k17 : PySem.W.keepIn K (.ref f17) = true)
    (a18 : PySem.W.nsIn K mainGlobals "_law_right" = some (some (.ref f18))) (l18 : K.lookup f18 = some ⟨oc18, od18, .func (PySem.W.fnOf "_law_right" "_law_right" (defArgs s_law_right) (defBody s_law_right) (defScope s_law_right) .none kV18 dc18 pm18 an18 cd18 ct18), sl18⟩) (c18 : PySem.W.codeIn K cd18 "_law_right" = true) (k18 : PySem.W.keepIn K (.ref f18) = true)
    (a19 : PySem.W.nsIn K mainGlobals "law" = some (some (.ref f19))) (l19 : K.lookup f19 = some ⟨oc19, od19, .func (PySem.W.fnOf "law" "law" (defArgs s_law) (defBody s_law) (defScope s_law) .none kV19 dc19 pm19 an19 cd19 ct19), sl19⟩) (c19 : PySem.W.codeIn K cd19 "law" = true) (k19 : PySem.W.keepIn K (.ref f19) = true)
    (z_abs : PySem.W.nsIn K mainGlobals "abs" = some none)
    (z_all : PySem.W.nsIn K mainGlobals "all" = some none)
    (z_any : PySem.W.nsIn K mainGlobals "any" = some none)
    (z_bool : PySem.W.nsIn K mainGlobals "bool" = some none)
    (z_int : PySem.W.nsIn K mainGlobals "int" = some none)
    (z_isinstance : PySem.W.nsIn K mainGlobals "isinstance" = some none)
    (z_len : PySem.W.nsIn K mainGlobals "len" = some none)
    (z_list : PySem.W.nsIn K mainGlobals "list" = some none)
    (z_max : PySem.W.nsIn K mainGlobals "max" = some none)
    (z_min : PySem.W.nsIn K mainGlobals "min" = some none)
    (z_range : PySem.W.nsIn K mainGlobals "range" = some none)
    (z_set : PySem.W.nsIn K mainGlobals "set" = some none)
    (z_sorted : PySem.W.nsIn K mainGlobals "sorted" = some none)
    (z_tuple : PySem.W.nsIn K mainGlobals "tuple" = some none)
    (z_zip : PySem.W.nsIn K mainGlobals "zip" = some none)
    (y_ANY : PySem.W.nsIn K mainGlobals "ANY" = some (some (.int (-1) tk_ANY)))
    (y_MAX_ENTRIES : PySem.W.nsIn K mainGlobals "MAX_ENTRIES" = some (some (.int (5) tk_MAX_ENTRIES)))
    : ∃ fd : FuncData, (∀ (s : Shared) (v : Value), BindsTo s fd ⟨[v], []⟩ [("script", v)]) ∧ ∀ base : Heap, K.In base → base.Ns mainGlobals mg → FnD l.prog w K mg base (clK K) 7 fa fd ["script"] F_law := by
  have e := hfa.symm.trans (PySem.W.mg_of X G a19)
  cases e
  have T : Txt mg _ _ := ⟨PySem.W.mg_none_of X G z_abs, PySem.W.mg_none_of X G z_all, PySem.W.mg_none_of X G z_any, PySem.W.mg_none_of X G z_bool, PySem.W.mg_none_of X G z_int, PySem.W.mg_none_of X G z_isinstance, PySem.W.mg_none_of X G z_len, PySem.W.mg_none_of X G z_list, PySem.W.mg_none_of X G z_max, PySem.W.mg_none_of X G z_min, PySem.W.mg_none_of X G z_range, PySem.W.mg_none_of X G z_set, PySem.W.mg_none_of X G z_sorted, PySem.W.mg_none_of X G z_tuple, PySem.W.mg_none_of X G z_zip, PySem.W.mg_of X G y_ANY, PySem.W.mg_of X G y_MAX_ENTRIES⟩
  have G0 := fun_mk (st := s_is_integer) l0 c0 k0
  have D0 : Fd K mg "is_integer" "is_integer" s_is_integer ["value"] := ⟨_, _, G0, PySem.W.mg_of X G a0, k0, G0.binds (ps := ["value"]) fun _ _ _ _ _ _ us hl => match us, hl with | [_], _ => rfl⟩
  have G1 := fun_mk (st := s_is_count) l1 c1 k1
  have D1 : Fd K mg "is_count" "is_count" s_is_count ["value", "least"] := ⟨_, _, G1, PySem.W.mg_of X G a1, k1, G1.binds (ps := ["value", "least"]) fun _ _ _ _ _ _ us hl => match us, hl with | [_, _], _ => rfl⟩
  have G2 := fun_mk (st := s_is_wide) l2 c2 k2
  have D2 : Fd K mg "is_wide" "is_wide" s_is_wide ["value"] := ⟨_, _, G2, PySem.W.mg_of X G a2, k2, G2.binds (ps := ["value"]) fun _ _ _ _ _ _ us hl => match us, hl with | [_], _ => rfl⟩
  have G3 := fun_mk (st := s_is_entry_within) l3 c3 k3
  have D3 : Fd K mg "is_entry_within" "is_entry_within" s_is_entry_within ["one", "other"] := ⟨_, _, G3, PySem.W.mg_of X G a3, k3, G3.binds (ps := ["one", "other"]) fun _ _ _ _ _ _ us hl => match us, hl with | [_, _], _ => rfl⟩
  have G4 := fun_mk (st := s_is_plain_within) l4 c4 k4
  have D4 : Fd K mg "is_plain_within" "is_plain_within" s_is_plain_within ["one", "other"] := ⟨_, _, G4, PySem.W.mg_of X G a4, k4, G4.binds (ps := ["one", "other"]) fun _ _ _ _ _ _ us hl => match us, hl with | [_, _], _ => rfl⟩
  have G5 := fun_mk (st := s_sum_of) l5 c5 k5
  have D5 : Fd K mg "sum_of" "sum_of" s_sum_of ["one", "other"] := ⟨_, _, G5, PySem.W.mg_of X G a5, k5, G5.binds (ps := ["one", "other"]) fun _ _ _ _ _ _ us hl => match us, hl with | [_, _], _ => rfl⟩
  have G6 := fun_mk (st := s_greatest_of) l6 c6 k6
  have D6 : Fd K mg "greatest_of" "greatest_of" s_greatest_of ["bags"] := ⟨_, _, G6, PySem.W.mg_of X G a6, k6, G6.binds (ps := ["bags"]) fun _ _ _ _ _ _ us hl => match us, hl with | [_], _ => rfl⟩
  have G7 := fun_mk (st := s_least_of) l7 c7 k7
  have D7 : Fd K mg "least_of" "least_of" s_least_of ["bags"] := ⟨_, _, G7, PySem.W.mg_of X G a7, k7, G7.binds (ps := ["bags"]) fun _ _ _ _ _ _ us hl => match us, hl with | [_], _ => rfl⟩
  have G8 := fun_mk (st := s_require_two) l8 c8 k8
  have D8 : Fd K mg "require_two" "require_two" s_require_two ["one", "other"] := ⟨_, _, G8, PySem.W.mg_of X G a8, k8, G8.binds (ps := ["one", "other"]) fun _ _ _ _ _ _ us hl => match us, hl with | [_, _], _ => rfl⟩
  have G9 := fun_mk (st := s_require_bags) l9 c9 k9
  have D9 : Fd K mg "require_bags" "require_bags" s_require_bags ["bags"] := ⟨_, _, G9, PySem.W.mg_of X G a9, k9, G9.binds (ps := ["bags"]) fun _ _ _ _ _ _ us hl => match us, hl with | [_], _ => rfl⟩
  have G10 := fun_mk (st := s_within) l10 c10 k10
  have D10 : Fd K mg "within" "within" s_within ["one", "other"] := ⟨_, _, G10, PySem.W.mg_of X G a10, k10, G10.binds (ps := ["one", "other"]) fun _ _ _ _ _ _ us hl => match us, hl with | [_, _], _ => rfl⟩
  have G11 := fun_mk (st := s_added) l11 c11 k11
  have D11 : Fd K mg "added" "added" s_added ["one", "other"] := ⟨_, _, G11, PySem.W.mg_of X G a11, k11, G11.binds (ps := ["one", "other"]) fun _ _ _ _ _ _ us hl => match us, hl with | [_, _], _ => rfl⟩
  have G12 := fun_mk (st := s_greatest) l12 c12 k12
  have D12 : Fd K mg "greatest" "greatest" s_greatest ["bags"] := ⟨_, _, G12, PySem.W.mg_of X G a12, k12, G12.binds (ps := ["bags"]) fun _ _ _ _ _ _ us hl => match us, hl with | [_], _ => rfl⟩
  have G13 := fun_mk (st := s_least) l13 c13 k13
  have D13 : Fd K mg "least" "least" s_least ["bags"] := ⟨_, _, G13, PySem.W.mg_of X G a13, k13, G13.binds (ps := ["bags"]) fun _ _ _ _ _ _ us hl => match us, hl with | [_], _ => rfl⟩
  have G14 := fun_mk (st := s_law_numbers) l14 c14 k14
  have D14 : Fd K mg "_law_numbers" "_law_numbers" s_law_numbers ["script", "at"] := ⟨_, _, G14, PySem.W.mg_of X G a14, k14, G14.binds (ps := ["script", "at"]) fun _ _ _ _ _ _ us hl => match us, hl with | [_, _], _ => rfl⟩
  have G15 := fun_mk (st := s_law_cast) l15 c15 k15
  have D15 : Fd K mg "_law_cast" "_law_cast" s_law_cast ["die", "total"] := ⟨_, _, G15, PySem.W.mg_of X G a15, k15, G15.binds (ps := ["die", "total"]) fun _ _ _ _ _ _ us hl => match us, hl with | [_, _], _ => rfl⟩
  have G16 := fun_mk (st := s_law_pick) l16 c16 k16
  have D16 : Fd K mg "_law_pick" "_law_pick" s_law_pick ["die", "items"] := ⟨_, _, G16, PySem.W.mg_of X G a16, k16, G16.binds (ps := ["die", "items"]) fun _ _ _ _ _ _ us hl => match us, hl with | [_, _], _ => rfl⟩
  have G17 := fun_mk (st := s_law_any_wide) l17 c17 k17
  have D17 : Fd K mg "_law_any_wide" "_law_any_wide" s_law_any_wide ["die", "size"] := ⟨_, _, G17, PySem.W.mg_of X G a17, k17, G17.binds (ps := ["die", "size"]) fun _ _ _ _ _ _ us hl => match us, hl with | [_, _], _ => rfl⟩
  have G18 := fun_mk (st := s_law_right) l18 c18 k18
  have D18 : Fd K mg "_law_right" "_law_right" s_law_right ["die"] := ⟨_, _, G18, PySem.W.mg_of X G a18, k18, G18.binds (ps := ["die"]) fun _ _ _ _ _ _ us hl => match us, hl with | [_], _ => rfl⟩
  have G19 := fun_mk (st := s_law) l19 c19 k19
  refine ⟨PySem.W.fnOf "law" "law" (defArgs s_law) (defBody s_law) (defScope s_law) .none kV19 dc19 pm19 an19 cd19 ct19, fun s v => .of_eq rfl, fun base _ _ => ?_⟩
  have C_is_integer := ok_is_integer (P := l.prog) (w := w) (base := base) (cl := clK K) T D0
  have C_is_count := ok_is_count (P := l.prog) (w := w) (base := base) (cl := clK K) T D1 C_is_integer
  have C_is_wide := ok_is_wide (P := l.prog) (w := w) (base := base) (cl := clK K) T D2 C_is_count
  have C_is_entry_within := ok_is_entry_within (P := l.prog) (w := w) (base := base) (cl := clK K) T D3
  have C_is_plain_within := ok_is_plain_within (P := l.prog) (w := w) (base := base) (cl := clK K) T D4 C_is_entry_within
  have C_sum_of := ok_sum_of (P := l.prog) (w := w) (base := base) (cl := clK K) T D5
  have C_greatest_of := ok_greatest_of (P := l.prog) (w := w) (base := base) (cl := clK K) T D6 C_is_plain_within
  have C_least_of := ok_least_of (P := l.prog) (w := w) (base := base) (cl := clK K) T D7 C_is_plain_within
  have C_require_two := ok_require_two (P := l.prog) (w := w) (base := base) (cl := clK K) T D8 C_is_wide
  have C_require_bags := ok_require_bags (P := l.prog) (w := w) (base := base) (cl := clK K) T D9 C_is_wide
  have C_within := ok_within (P := l.prog) (w := w) (base := base) (cl := clK K) T D10 C_is_plain_within C_require_two
  have C_added := ok_added (P := l.prog) (w := w) (base := base) (cl := clK K) T D11 C_sum_of C_require_two
  have C_greatest := ok_greatest (P := l.prog) (w := w) (base := base) (cl := clK K) T D12 C_greatest_of C_require_bags
  have C_least := ok_least (P := l.prog) (w := w) (base := base) (cl := clK K) T D13 C_least_of C_require_bags
  have C_law_numbers := ok_law_numbers (P := l.prog) (w := w) (base := base) (cl := clK K) T D14
  have C_law_cast := ok_law_cast (P := l.prog) (w := w) (base := base) (cl := clK K) T D15
  have C_law_pick := ok_law_pick (P := l.prog) (w := w) (base := base) (cl := clK K) T D16 C_law_cast
  have C_law_any_wide := ok_law_any_wide (P := l.prog) (w := w) (base := base) (cl := clK K) T D17 C_law_pick
  have C_law_right := ok_law_right (P := l.prog) (w := w) (base := base) (cl := clK K) T D18 C_greatest C_least C_added C_law_pick C_within C_law_cast C_law_any_wide
  exact ok_law T G19 C_greatest C_least C_law_right C_law_numbers
end K03
open PySem PySem.W PyProof.Rows in
set_option maxRecDepth 100000 in
set_option maxHeartbeats 0 in
theorem PySem.Challenge.cw_postedbag_k03_whole_greatest_and_least_holds : PySem.Challenge.rw_postedbag_k03_whole_greatest_and_least.Holds := by
  w_on; o_law; k_head; (case hw => w_witness2)
  k_fill
  refine DN.walk_D (l := PySem.Challenge.rw_postedbag_k03_whole_greatest_and_least) (n := 63) (k := 7) (cl := DN.clK) (F := K03.F_law) rfl (by decide) rfl ⟨rfl, by decide, by decide⟩ (fun w h Y => PySem.W.kIn_of Y) K03.main ?F
  case F =>
    intro w mg fa h KX G hmg
    refine' K03.all_mk KX G hmg ?a0 ?l0 ?c0 ?k0 ?a1 ?l1 ?c1 ?k1 ?a2 ?l2 ?c2 ?k2 ?a3 ?l3 ?c3 ?k3 ?a4 ?l4 ?c4 ?k4 ?a5 ?l5 ?c5 ?k5 ?a6 ?l6 ?c6 ?k6 ?a7 ?l7 ?c7 ?k7 ?a8 ?l8 ?c8 ?k8 ?a9 ?l9 ?c9 ?k9 ?a10 ?l10 ?c10 ?k10 ?a11 ?l11 ?c11 ?k11 ?a12 ?l12 ?c12 ?k12 ?a13 ?l13 ?c13 ?k13 ?a14 ?l14 ?c14 ?k14 ?a15 ?l15 ?c15 ?k15 ?a16 ?l16 ?c16 ?k16 ?a17 ?l17 ?c17 ?k17 ?a18 ?l18 ?c18 ?k18 ?a19 ?l19 ?c19 ?k19 ?z_abs ?z_all ?z_any ?z_bool ?z_int ?z_isinstance ?z_len ?z_list ?z_max ?z_min ?z_range ?z_set ?z_sorted ?z_tuple ?z_zip ?y_ANY ?y_MAX_ENTRIES
    (case a0 => k_is)
    (case l0 => k_is)
    (case c0 => k_is)
    (case k0 => k_is)
    (case a1 => k_is)
    (case l1 => k_is)
    (case c1 => k_is)
    (case k1 => k_is)
    (case a2 => k_is)
    (case l2 => k_is)
    (case c2 => k_is)
    (case k2 => k_is)
    (case a3 => k_is)
    (case l3 => k_is)
    (case c3 => k_is)
    (case k3 => k_is)
    (case a4 => k_is)
    (case l4 => k_is)
    (case c4 => k_is)
    (case k4 => k_is)
    (case a5 => k_is)
    (case l5 => k_is)
    (case c5 => k_is)
    (case k5 => k_is)
    (case a6 => k_is)
    (case l6 => k_is)
    (case c6 => k_is)
    (case k6 => k_is)
    (case a7 => k_is)
    (case l7 => k_is)
    (case c7 => k_is)
    (case k7 => k_is)
    (case a8 => k_is)
    (case l8 => k_is)
    (case c8 => k_is)
    (case k8 => k_is)
    (case a9 => k_is)
    (case l9 => k_is)
    (case c9 => k_is)
    (case k9 => k_is)
    (case a10 => k_is)
    (case l10 => k_is)
    (case c10 => k_is)
    (case k10 => k_is)
    (case a11 => k_is)
    (case l11 => k_is)
    (case c11 => k_is)
    (case k11 => k_is)
    (case a12 => k_is)
    (case l12 => k_is)
    (case c12 => k_is)
    (case k12 => k_is)
    (case a13 => k_is)
    (case l13 => k_is)
    (case c13 => k_is)
    (case k13 => k_is)
    (case a14 => k_is)
    (case l14 => k_is)
    (case c14 => k_is)
    (case k14 => k_is)
    (case a15 => k_is)
    (case l15 => k_is)
    (case c15 => k_is)
    (case k15 => k_is)
    (case a16 => k_is)
    (case l16 => k_is)
    (case c16 => k_is)
    (case k16 => k_is)
    (case a17 => k_is)
    (case l17 => k_is)
    (case c17 => k_is)
    (case k17 => k_is)
    (case a18 => k_is)
    (case l18 => k_is)
    (case c18 => k_is)
    (case k18 => k_is)
    (case a19 => k_is)
    (case l19 => k_is)
    (case c19 => k_is)
    (case k19 => k_is)
    (case z_abs => k_is)
    (case z_all => k_is)
    (case z_any => k_is)
    (case z_bool => k_is)
    (case z_int => k_is)
    (case z_isinstance => k_is)
    (case z_len => k_is)
    (case z_list => k_is)
    (case z_max => k_is)
    (case z_min => k_is)
    (case z_range => k_is)
    (case z_set => k_is)
    (case z_sorted => k_is)
    (case z_tuple => k_is)
    (case z_zip => k_is)
    (case y_ANY => k_is)
    (case y_MAX_ENTRIES => k_is)
