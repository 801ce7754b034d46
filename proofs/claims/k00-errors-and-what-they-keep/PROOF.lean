import PyProof.Rows.All
import Wide.All
import OpenK.AllK
import Wide.FinOn
import HandS.ForMost
import HandS.Exc
import HandS.TryOnly
import HandS.ExcOwn
import HandS.IsInst
import HandS.TupAny
import HandS.TupMul
import HandS.FStr
import HandS.Property
import HandS.ClsMeth
import HandS.Star
import HandS.Deep
import HandS.Wide
import HandS.Lambda
import HandS.EndTab
import HandS.ExcInit
import HandS.ExcValue
import HandS.Zip
import HandS.WordsExc
import HandS.Text
import HandS.ExcIs
import HandS.TupSets
import KE.KDictDisplayH
import HandS.EndOwn
import HandS.ExcField
import KE.KExcIs
import PySem.Challenge.RW_postedbag_k00_errors_and_what_they_keep
set_option Elab.async false
set_option linter.all false
set_option autoImplicit false
set_option maxRecDepth 100000
set_option maxHeartbeats 4000000
/-! DN1: data, store, worlds, the readings of expressions, tests, statements. -/
namespace DN
open PySem PySem.Spec PyProof.Rows L2

/-- data without the heap; mut n: the n-th cell of the store -/
inductive D where
  | non | bl (b : Bool) | int (i : Int) | str (x : Str)
  | tup (xs : List D) | lst (xs : List D) | dct (kvs : List (D × D))
  | mut (n : Nat) | ins (c : Str) (fs : List (Str × D)) | scr (ns : List Int) | opq
  | exn (c : Str) (fs : List (Str × D))

inductive Cell where
  | lst (xs : List D)
  | dct (kvs : List (D × D))
abbrev Store := List Cell

inductive Res (α : Type) where
  | ok (a : α) (S : Store)
  | exc (c : Str) (fs : List (Str × D)) (S : Store)
  | bad
abbrev M (α : Type) := Store → Res α
def M.pure {α : Type} (a : α) : M α := fun S => .ok a S
def M.bind {α β : Type} (m : M α) (k : α → M β) : M β := fun S =>
  match m S with
  | .ok a S' => k a S'
  | .exc c fs S' => .exc c fs S'
  | .bad => .bad
def M.bad {α : Type} : M α := fun _ => .bad
instance : Monad M where
  pure := M.pure
  bind := M.bind

/-- a slot: unknown, data, a list of the frame's own -/
inductive Sl where
  | un | val (d : D) | own (xs : List D)
abbrev Env := List Sl

/-- what stays fixed: the written part, the classes by name -/
structure Cls_ where
  at_ : Str → Option Addr
  T : List (Addr × Str)
structure Gx where
  K : PySem.W.Frag
  cl : Cls_

/-- a world: where the cells stand, what is busy (may change) -/
structure Wd where
  phi : Nat → Option Addr
  B : Addr → Prop

/-- a list, a tuple that is read and does not change -/
def LstAt (G : Gx) (W : Wd) (H : Hp) (a : Addr) (xs : List V) : Prop :=
  (Rd H a (.lst xs) ∧ ¬ W.B a) ∨
    ∃ (o : Obj) (its : Array Value) (n : Nat), G.K.lookup a = some o ∧ o.cls = .type "list" ∧ o.dict = none ∧ o.data = .seq its n ∧ its.size ≤ sizeLine ∧ Vals xs its.toList
def TupAt (G : Gx) (W : Wd) (H : Hp) (a : Addr) (xs : List V) : Prop :=
  (Rd H a (.tup xs) ∧ ¬ W.B a) ∨
    ∃ (o : Obj) (its : Array Value) (n : Nat), G.K.lookup a = some o ∧ o.cls = .type "tuple" ∧ o.data = .seq its n ∧ its.size ≤ sizeLine ∧ Vals xs its.toList
theorem LstAt.sq {G : Gx} {W : Wd} {H : Hp} {a : Addr} {xs : List V} (h : LstAt G W H a xs) : SqL G.K H a xs := h.imp And.left id
theorem TupAt.sq {G : Gx} {W : Wd} {H : Hp} {a : Addr} {xs : List V} (h : TupAt G W H a xs) : SqT G.K H a xs := h.imp And.left id

/-- a dict, of which nothing else is known -/
abbrev OpqO (a : Addr) : HO := .ext fun h => ∃ o, h.get? a = some o ∧ o.cls = .type "dict"
mutual
inductive Rp (G : Gx) (W : Wd) (H : Hp) : V → D → Prop
  | non : Rp G W H .non .non
  | bl (b : Bool) : Rp G W H (.bl b) (.bl b)
  | int (i : Int) : Rp G W H (.int i) (.int i)
  | str (x : Str) : Rp G W H (.str x) (.str x)
  | tup {a : Addr} {vs : List V} {ds : List D} : TupAt G W H a vs → RpA G W H vs ds → Rp G W H (.ref a) (.tup ds)
  | lst {a : Addr} {vs : List V} {ds : List D} : H a = some (.lst vs) → ¬ W.B a → RpA G W H vs ds → Rp G W H (.ref a) (.lst ds)
  | scr {a : Addr} {ns : List Int} : LstAt G W H a (ns.map V.int) → Rp G W H (.ref a) (.scr ns)
  | dct {a : Addr} {kvs : List (Key × V)} {ds : List (D × D)} : H a = some (.dK kvs) → ¬ W.B a → RpK G W H kvs ds → Rp G W H (.ref a) (.dct ds)
  | mut {n : Nat} {a : Addr} : W.phi n = some a → Rp G W H (.ref a) (.mut n)
  | opq {a : Addr} : H a = some (OpqO a) → ¬ W.B a → Rp G W H (.ref a) .opq
  | exn0 {c : Str} {a C : Addr} : G.cl.at_ c = some C → H a = some (ExO (.ref C) a) → ¬ W.B a → Rp G W H (.ref a) (.exn c [])
  | exn1 {c : Str} {a C dx : Addr} {fs : List (Str × V)} {ds : List (Str × D)} : G.cl.at_ c = some C → H a = some (exo a C (some dx)) → ¬ W.B a → H dx = some (exd dx fs) → ¬ W.B dx → RpF G W H fs ds → Rp G W H (.ref a) (.exn c ds)
  | ins {c : Str} {a C dx : Addr} {fs : List (Str × V)} {ds : List (Str × D)} : G.cl.at_ c = some C → H a = some (.ins C dx fs) → ¬ W.B a → RpF G W H fs ds → Rp G W H (.ref a) (.ins c ds)
inductive RpA (G : Gx) (W : Wd) (H : Hp) : List V → List D → Prop
  | nil : RpA G W H [] []
  | cons {v : V} {vs : List V} {d : D} {ds : List D} : Rp G W H v d → RpA G W H vs ds → RpA G W H (v :: vs) (d :: ds)
inductive RpK (G : Gx) (W : Wd) (H : Hp) : List (Key × V) → List (D × D) → Prop
  | nil : RpK G W H [] []
  | consI {i : Int} {v : V} {vs : List (Key × V)} {d : D} {ds : List (D × D)} : Rp G W H v d → RpK G W H vs ds → RpK G W H ((.inl i, v) :: vs) ((.int i, d) :: ds)
  | consS {x : Str} {v : V} {vs : List (Key × V)} {d : D} {ds : List (D × D)} : Rp G W H v d → RpK G W H vs ds → RpK G W H ((.inr x, v) :: vs) ((.str x, d) :: ds)
inductive RpF (G : Gx) (W : Wd) (H : Hp) : List (Str × V) → List (Str × D) → Prop
  | nil : RpF G W H [] []
  | cons {f : Str} {v : V} {vs : List (Str × V)} {d : D} {ds : List (Str × D)} : Rp G W H v d → RpF G W H vs ds → RpF G W H ((f, v) :: vs) ((f, d) :: ds)
end

/-- no table of code objects -/
def nt (o : HO) : Prop := ∀ ps, o ≠ .tbl ps
theorem nt_ext {o : HO} (h : ∃ φ, o = .ext φ) : nt o := fun ps z => by
  obtain ⟨φ, e⟩ := h
  rw [e] at z
  cases z
/-- nothing stood there but perhaps a table -/
def Nw (H : Hp) (a : Addr) : Prop := ∀ o, H a = some o → ¬ nt o
theorem Nw.of {H : Hp} {a : Addr} (h : H a = none) : Nw H a := fun o e => by rw [h] at e; cases e
theorem Nw.no {H : Hp} {a : Addr} {o : HO} (z : Nw H a) (h : H a = some o) (t : nt o := by intro _ z; cases z) {Q : Prop} : Q := absurd t (z o h)
/-- worlds in a row, weakly (behind statements): what is not busy stays -/
structure Lw (W : Wd) (H : Hp) (W' : Wd) (H' : Hp) : Prop where
  ph : ∀ n a, W.phi n = some a → W'.phi n = some a
  Bn : ∀ a, W'.B a → W.B a ∨ Nw H a
  kp' : ∀ b o, H b = some o → nt o → ¬ W.B b → H' b = some o
theorem Lw.kp {W : Wd} {H : Hp} {W' : Wd} {H' : Hp} (l : Lw W H W' H') (b : Addr) (o : HO) (h : H b = some o) (nb : ¬ W.B b) (t : nt o := by intro _ z; cases z) : H' b = some o := l.kp' b o h t nb
/-- .. behind expressions and calls: only the store's cells change -/
structure Le (W : Wd) (H : Hp) (W' : Wd) (H' : Hp) : Prop where
  ph : ∀ n a, W.phi n = some a → W'.phi n = some a
  ps : ∀ n a, W'.phi n = some a → W.phi n = some a ∨ Nw H a
  Bm : ∀ a, W.B a → W'.B a
  Bn : ∀ a, W'.B a → W.B a ∨ Nw H a
  kp' : ∀ b o, H b = some o → nt o → (∃ n, W.phi n = some b) ∨ H' b = some o
theorem Le.kp {W : Wd} {H : Hp} {W' : Wd} {H' : Hp} (l : Le W H W' H') (b : Addr) (o : HO) (h : H b = some o) (t : nt o := by intro _ z; cases z) : (∃ n, W.phi n = some b) ∨ H' b = some o := l.kp' b o h t
structure WOk (W : Wd) (H : Hp) : Prop where
  tr : ∀ a, W.B a → ∃ o, H a = some o ∧ nt o
  rg : ∀ n a, W.phi n = some a → W.B a
  ij : ∀ n m a, W.phi n = some a → W.phi m = some a → n = m

section
variable {G : Gx} {W W' W1 W2 : Wd} {H H' H1 H2 : Hp}
theorem Lw.refl : Lw W H W H := ⟨fun _ _ h => h, fun _ h => .inl h, fun _ _ h _ _ => h⟩
theorem Le.refl : Le W H W H := ⟨fun _ _ h => h, fun _ _ h => .inl h, fun _ h => h, fun _ h => .inl h, fun _ _ h _ => .inr h⟩
theorem Lw.trans (a : Lw W H W1 H1) (b : Lw W1 H1 W2 H2) : Lw W H W2 H2 := by
  refine ⟨fun n x h => b.ph n x (a.ph n x h), fun x h => ?_, fun c o h t nb => ?_⟩
  · rcases b.Bn x h with h1 | h1
    · exact a.Bn x h1
    · by_cases nb : W.B x
      · exact .inl nb
      · exact .inr fun o q t => h1 o (a.kp' x o q t nb) t
  · refine b.kp' c o (a.kp' c o h t nb) t fun q => ?_
    rcases a.Bn c q with z | z
    · exact nb z
    · exact z.no h t
theorem Le.trans (a : Le W H W1 H1) (b : Le W1 H1 W2 H2) (w : WOk W H) (w2 : WOk W2 H2) : Le W H W2 H2 := by
  refine ⟨fun n x h => b.ph n x (a.ph n x h), fun n x h => ?_, fun x h => b.Bm x (a.Bm x h), fun x h => ?_, fun c o h t => ?_⟩
  · rcases b.ps n x h with h1 | h1
    · exact a.ps n x h1
    · by_cases hx : W.phi n = some x
      · exact .inl hx
      · refine .inr fun o q t => ?_
        rcases a.kp' x o q t with ⟨m, z⟩ | z
        · have e := w2.ij n m x h (b.ph m x (a.ph m x z))
          subst e; exact hx z
        · exact h1 o z t
  · rcases b.Bn x h with h1 | h1
    · exact a.Bn x h1
    · by_cases hx : W.B x
      · exact .inl hx
      · refine .inr fun o q t => ?_
        rcases a.kp' x o q t with ⟨m, z⟩ | z
        · exact hx (w.rg m x z)
        · exact h1 o z t
  · rcases a.kp' c o h t with z | z
    · exact .inl z
    · rcases b.kp' c o z t with ⟨n, y⟩ | y
      · rcases a.ps n c y with q | q
        · exact .inl ⟨n, q⟩
        · exact q.no h t
      · exact .inr y
theorem Le.lw (a : Le W H W1 H1) (w : WOk W H) : Lw W H W1 H1 := by
  refine ⟨a.ph, a.Bn, fun c o h t nb => ?_⟩
  rcases a.kp' c o h t with ⟨n, z⟩ | z
  · exact absurd (w.rg n c z) nb
  · exact z
/-- new objects alone -/
theorem Le.same (s : Same H H') : Le W H W H' := ⟨fun _ _ h => h, fun _ _ h => .inl h, fun _ h => h, fun _ h => .inl h, fun b o h _ => .inr (s b o h)⟩
theorem WOk.same (w : WOk W H) (s : Same H H') : WOk W H' := ⟨fun a h => let ⟨o, e, t⟩ := w.tr a h; ⟨o, s a o e, t⟩, w.rg, w.ij⟩
theorem Same.new {p : Addr} {o : HO} (h : H p = none) : Same H (upd H p o) := fun b u e => by
  rw [upd_ne (ne_of_none e h)]; exact e
theorem LstAt.mono {a : Addr} {xs : List V} (l : Lw W H W' H') (h : LstAt G W H a xs) : LstAt G W' H' a xs := by
  rcases h with ⟨h, nb⟩ | h
  · left
    rcases h with h | ⟨o, h⟩
    · exact ⟨.inl (l.kp _ _ h nb), fun q => (l.Bn _ q).elim nb fun z => z.no h⟩
    · exact ⟨.inr ⟨o, l.kp _ _ h nb⟩, fun q => (l.Bn _ q).elim nb fun z => z.no h⟩
  · exact .inr h
theorem TupAt.mono {a : Addr} {xs : List V} (l : Lw W H W' H') (h : TupAt G W H a xs) : TupAt G W' H' a xs := by
  rcases h with ⟨h, nb⟩ | h
  · left
    rcases h with h | ⟨o, h⟩
    · exact ⟨.inl (l.kp _ _ h nb), fun q => (l.Bn _ q).elim nb fun z => z.no h⟩
    · exact ⟨.inr ⟨o, l.kp _ _ h nb⟩, fun q => (l.Bn _ q).elim nb fun z => z.no h⟩
  · exact .inr h
mutual
theorem Rp.mono (l : Lw W H W' H') : ∀ {v : V} {d : D}, Rp G W H v d → Rp G W' H' v d
  | _, _, .non => .non
  | _, _, .bl b => .bl b
  | _, _, .int i => .int i
  | _, _, .str x => .str x
  | _, _, .tup h r => .tup (h.mono l) (RpA.mono l r)
  | _, _, .lst h nb r => .lst (l.kp _ _ h nb) (fun q => (l.Bn _ q).elim nb fun z => z.no h) (RpA.mono l r)
  | _, _, .scr h => .scr (h.mono l)
  | _, _, .dct h nb r => .dct (l.kp _ _ h nb) (fun q => (l.Bn _ q).elim nb fun z => z.no h) (RpK.mono l r)
  | _, _, .mut h => .mut (l.ph _ _ h)
  | _, _, .opq h nb => .opq (l.kp _ _ h nb) (fun q => (l.Bn _ q).elim nb fun z => z.no h)
  | _, _, .exn0 c h nb => .exn0 c (l.kp _ _ h nb (nt_ext ⟨_, rfl⟩)) (fun q => (l.Bn _ q).elim nb fun z => z.no h (nt_ext ⟨_, rfl⟩))
  | _, _, .exn1 c h nb h2 nb2 r => .exn1 c (l.kp _ _ h nb (nt_ext ⟨_, rfl⟩)) (fun q => (l.Bn _ q).elim nb fun z => z.no h (nt_ext ⟨_, rfl⟩)) (l.kp _ _ h2 nb2 (nt_ext ⟨_, rfl⟩)) (fun q => (l.Bn _ q).elim nb2 fun z => z.no h2 (nt_ext ⟨_, rfl⟩)) (RpF.mono l r)
  | _, _, .ins c h nb r => .ins c (l.kp _ _ h nb) (fun q => (l.Bn _ q).elim nb fun z => z.no h) (RpF.mono l r)
theorem RpA.mono (l : Lw W H W' H') : ∀ {vs : List V} {ds : List D}, RpA G W H vs ds → RpA G W' H' vs ds
  | _, _, .nil => .nil
  | _, _, .cons r t => .cons (Rp.mono l r) (RpA.mono l t)
theorem RpK.mono (l : Lw W H W' H') : ∀ {vs : List (Key × V)} {ds : List (D × D)}, RpK G W H vs ds → RpK G W' H' vs ds
  | _, _, .nil => .nil
  | _, _, .consI r t => .consI (Rp.mono l r) (RpK.mono l t)
  | _, _, .consS r t => .consS (Rp.mono l r) (RpK.mono l t)
theorem RpF.mono (l : Lw W H W' H') : ∀ {vs : List (Str × V)} {ds : List (Str × D)}, RpF G W H vs ds → RpF G W' H' vs ds
  | _, _, .nil => .nil
  | _, _, .cons r t => .cons (Rp.mono l r) (RpF.mono l t)
end
theorem RpA.length : ∀ {vs : List V} {ds : List D}, RpA G W H vs ds → vs.length = ds.length
  | _, _, .nil => rfl
  | _, _, .cons _ t => by rw [List.length_cons, List.length_cons, RpA.length t]
theorem RpA.get : ∀ {vs : List V} {ds : List D} {i : Nat} {d : D}, RpA G W H vs ds → ds[i]? = some d → ∃ v, vs[i]? = some v ∧ Rp G W H v d
  | _, _, _, _, .nil, e => by simp at e
  | _, _, 0, _, .cons r _, e => by simp at e; subst e; exact ⟨_, rfl, r⟩
  | _, _, i + 1, d, .cons _ t, e => by
    obtain ⟨v, h1, h2⟩ := RpA.get (i := i) (d := d) t (by simpa using e)
    exact ⟨v, by simpa using h1, h2⟩
theorem RpA.app : ∀ {vs ws : List V} {ds es : List D}, RpA G W H vs ds → RpA G W H ws es → RpA G W H (vs ++ ws) (ds ++ es)
  | _, _, _, _, .nil, s => s
  | _, _, _, _, .cons r t, s => .cons r (RpA.app t s)
theorem RpA.take : ∀ {vs : List V} {ds : List D} (n : Nat), RpA G W H vs ds → RpA G W H (vs.take n) (ds.take n)
  | _, _, 0, _ => .nil
  | _, _, _ + 1, .nil => .nil
  | _, _, n + 1, .cons r t => .cons r (RpA.take n t)
theorem RpA.drop : ∀ {vs : List V} {ds : List D} (n : Nat), RpA G W H vs ds → RpA G W H (vs.drop n) (ds.drop n)
  | _, _, 0, r => r
  | _, _, _ + 1, .nil => .nil
  | _, _, n + 1, .cons _ t => RpA.drop n t
theorem RpA.set {v : V} {d : D} (r : Rp G W H v d) : ∀ {vs : List V} {ds : List D} (n : Nat), RpA G W H vs ds → RpA G W H (vs.set n v) (ds.set n d)
  | _, _, _, .nil => .nil
  | _, _, 0, .cons _ t => .cons r t
  | _, _, n + 1, .cons q t => .cons q (RpA.set r n t)
theorem RpA.rev {vs : List V} {ds : List D} (h : RpA G W H vs ds) : RpA G W H vs.reverse ds.reverse := by
  induction vs generalizing ds with
  | nil => cases h; exact .nil
  | cons v vs ih =>
    cases h with
    | cons r t =>
      rw [List.reverse_cons, List.reverse_cons]
      exact (ih t).app (.cons r .nil)
end

/-- a cell as it stands -/
def CellOk (G : Gx) (W : Wd) (H : Hp) (a : Addr) : Cell → Prop
  | .lst ds => ∃ vs, H a = some (.lst vs) ∧ RpA G W H vs ds
  | .dct ds => ∃ kvs, H a = some (.dK kvs) ∧ RpK G W H kvs ds
structure StOk (G : Gx) (W : Wd) (H : Hp) (S : Store) : Prop where
  at_ : ∀ (n : Nat) (c : Cell), S[n]? = some c → ∃ a, W.phi n = some a ∧ CellOk G W H a c
  top : ∀ n, S.length ≤ n → W.phi n = none
  tb : LamX.Tabs G.cl.T H
/-- the tables stay where no table and no code object is written -/
theorem Tabs.put {T : List (Addr × Str)} {H : Hp} {p : Addr} {o u : HO} (t : LamX.Tabs T H) (h : H p = some o) (n1 : nt o) (n2 : ∀ c q, o ≠ LamX.CodeO c q) : LamX.Tabs T (upd H p u) := fun z hz => by
  obtain ⟨ps, e, k, c⟩ := t z hz
  refine ⟨ps, by rw [upd_ne (fun y => by rw [y, h] at e; cases e; exact n1 _ rfl)]; exact e, k, fun pos cv hc => ?_⟩
  obtain ⟨d, e1, e2⟩ := c pos cv hc
  exact ⟨d, e1, by rw [upd_ne (fun y => by rw [y, h] at e2; cases e2; exact n2 _ _ rfl)]; exact e2⟩
theorem code_lst {xs : List V} : ∀ (c : Addr) (q : Str), HO.lst xs ≠ LamX.CodeO c q := fun c q z => by
  unfold LamX.CodeO at z
  cases z
theorem code_dK {xs : List (Key × V)} : ∀ (c : Addr) (q : Str), HO.dK xs ≠ LamX.CodeO c q := fun c q z => by
  unfold LamX.CodeO at z
  cases z
theorem CellOk.same {G : Gx} {W W' : Wd} {H H' : Hp} {a : Addr} {c : Cell} (l : Lw W H W' H') (s : ∀ o, H a = some o → H' a = some o) (h : CellOk G W H a c) : CellOk G W' H' a c := by
  cases c with
  | lst ds => obtain ⟨vs, h, r⟩ := h; exact ⟨vs, s _ h, r.mono l⟩
  | dct ds => obtain ⟨vs, h, r⟩ := h; exact ⟨vs, s _ h, r.mono l⟩
theorem Lw.same {W : Wd} {H H' : Hp} (s : Same H H') : Lw W H W H' := ⟨fun _ _ h => h, fun _ h => .inl h, fun b o h _ _ => s b o h⟩
theorem StOk.same {G : Gx} {W : Wd} {H H' : Hp} {S : Store} (h : StOk G W H S) (s : Same H H') : StOk G W H' S :=
  ⟨fun n c e => let ⟨a, e1, e2⟩ := h.at_ n c e; ⟨a, e1, e2.same (Lw.same s) fun o q => s a o q⟩, h.top, h.tb.ext s⟩

/-- the environment of a frame that was entered in the world W0, H0 -/
structure Ev (G : Gx) (W0 : Wd) (H0 : Hp) (W : Wd) (H : Hp) (S : Store) (σ : L2.St) (ρ : Env) (own : Nat → Option Addr) : Prop where
  w0 : WOk W0 H0
  wk : WOk W H
  le : Le W0 H0 W H
  st : StOk G W H S
  len : σ.length = ρ.length
  sl : ∀ (i : Nat) (d : D), ρ[i]? = some (.val d) → ∃ v, σ[i]? = some (some v) ∧ Rp G W H v d
  so : ∀ (i : Nat) (ds : List D), ρ[i]? = some (.own ds) → ∃ a vs, own i = some a ∧ σ[i]? = some (some (.ref a)) ∧ H a = some (.lst vs) ∧ RpA G W H vs ds
  oB : ∀ i a, own i = some a → W.B a ∧ Nw H0 a ∧ ∀ n, W.phi n ≠ some a
  oi : ∀ i j a, own i = some a → own j = some a → i = j

section
variable {G : Gx} {W0 W W' : Wd} {H0 H H' : Hp} {S S' : Store} {σ : L2.St} {ρ : Env} {own : Nat → Option Addr}
/-- behind an expression -/
theorem Ev.mono (e : Ev G W0 H0 W H S σ ρ own) (l : Le W H W' H') (w : WOk W' H') (s : StOk G W' H' S') : Ev G W0 H0 W' H' S' σ ρ own := by
  have lw := l.lw e.wk
  refine ⟨e.w0, w, e.le.trans l e.w0 w, s, e.len, fun i d h => ?_, fun i ds h => ?_, fun i a h => ?_, e.oi⟩
  · obtain ⟨v, h1, h2⟩ := e.sl i d h
    exact ⟨v, h1, h2.mono lw⟩
  · obtain ⟨a, vs, h1, h2, h3, h4⟩ := e.so i ds h
    refine ⟨a, vs, h1, h2, ?_, h4.mono lw⟩
    rcases l.kp _ _ h3 with ⟨n, z⟩ | z
    · exact absurd z ((e.oB i a h1).2.2 n)
    · exact z
  · obtain ⟨h1, h2, h3⟩ := e.oB i a h
    refine ⟨l.Bm _ h1, h2, fun n q => ?_⟩
    rcases l.ps n a q with z | z
    · exact h3 n z
    · obtain ⟨o, y, t⟩ := e.wk.tr a h1
      exact z.no y t
theorem Ev.same (e : Ev G W0 H0 W H S σ ρ own) (s : Same H H') : Ev G W0 H0 W H' S σ ρ own := e.mono (Le.same s) (e.wk.same s) (e.st.same s)
end

/-- an exception: an own class by its name, its fields -/
def ExOk (G : Gx) (W : Wd) (H : Hp) (c : Str) (fs : List (Str × D)) (cls : Value) (dd : Option Addr) : Prop :=
  ∃ C, G.cl.at_ c = some C ∧ cls = .ref C ∧ ((fs = [] ∧ dd = none) ∨ fs ≠ [] ∧ ∃ dx vs, dd = some dx ∧ H dx = some (.xd vs) ∧ ¬ W.B dx ∧ RpF G W H vs fs)

/-- what is wanted of a result -/
def Po {α : Type} (G : Gx) (E : WX) (σ : L2.St) (W : Wd) (H : Hp) (r : Res α) (R : α → Store → Wd → Hp → Prop) : Prop :=
  match r with
  | .ok a S' => ∀ W' H', Le W H W' H' → WOk W' H' → StOk G W' H' S' → R a S' W' H'
  | .exc c fs S' => ∀ W' H' cls dd, Le W H W' H' → WOk W' H' → StOk G W' H' S' → ExOk G W' H' c fs cls dd → E cls dd σ H'
  | .bad => False
section
variable {G : Gx} {E : WX} {σ : L2.St} {W W1 : Wd} {H H1 : Hp} {α β : Type}
theorem Po.step {r : Res α} {R : α → Store → Wd → Hp → Prop} (w : WOk W H) (l : Le W H W1 H1) (h : Po G E σ W H r R) : Po G E σ W1 H1 r R := by
  cases r with
  | ok a S' => exact fun W' H' l' w' s' => h W' H' (l.trans l' w w') w' s'
  | exc c fs S' => exact fun W' H' cls dd l' w' s' x => h W' H' cls dd (l.trans l' w w') w' s' x
  | bad => exact h
theorem Po.bind {m : M α} {k : α → M β} {S : Store} {R : β → Store → Wd → Hp → Prop} (w : WOk W H) (h : Po G E σ W H ((m >>= k) S) R) :
    Po G E σ W H (m S) (fun a S1 W1 H1 => Po G E σ W1 H1 (k a S1) R) := by
  have h : Po G E σ W H (M.bind m k S) R := h
  unfold M.bind at h
  cases q : m S with
  | ok a S' =>
    rw [q] at h
    exact fun W' H' l' w' s' => Po.step w l' h
  | exc c fs S' => rw [q] at h; exact h
  | bad => rw [q] at h; exact h
theorem Po.imp {r : Res α} {R R' : α → Store → Wd → Hp → Prop} (h : Po G E σ W H r R) (i : ∀ a S' W' H', Le W H W' H' → WOk W' H' → StOk G W' H' S' → R a S' W' H' → R' a S' W' H') : Po G E σ W H r R' := by
  cases r with
  | ok a S' => exact fun W' H' l' w' s' => i a S' W' H' l' w' s' (h W' H' l' w' s')
  | exc c fs S' => exact h
  | bad => exact h
/-- at once -/
theorem Po.now {a : α} {S : Store} {R : α → Store → Wd → Hp → Prop} (w : WOk W H) (s : StOk G W H S) (h : Po G E σ W H (.ok a S) R) : R a S W H := h W H Le.refl w s
end

/-- a value is wanted -/
abbrev RV (G : Gx) (Q : VK) : D → Store → Wd → Hp → Prop := fun d _ W' H' => ∀ v, Rp G W' H' v d → Q v H'
def tE (G : Gx) (E : WX) (f : Env → M D) : TE := fun σ H Q => ∃ W0 H0 W S ρ own, Ev G W0 H0 W H S σ ρ own ∧ Po G E σ W H (f ρ S) (RV G Q)
def tB_ (G : Gx) (E : WX) (f : Env → M Bool) : TT := fun σ H Q => ∃ W0 H0 W S ρ own, Ev G W0 H0 W H S σ ρ own ∧ Po G E σ W H (f ρ S) (fun b _ _ H' => Q b H')
def tA (G : Gx) (E : WX) (f : Env → M (List D)) : TA := fun σ H Q => ∃ W0 H0 W S ρ own, Ev G W0 H0 W H S σ ρ own ∧ Po G E σ W H (f ρ S) (fun ds _ W' H' => ∀ vs, RpA G W' H' vs ds → Q vs H')

/-- the judgements: e reads as f -/
abbrev DE (X : Cx) (cl : Cls_) (E : WX) (e : Expr) (f : Env → M D) : Prop := PE X e (tE ⟨X.K, cl⟩ E f)
abbrev DT (X : Cx) (cl : Cls_) (E : WX) (e : Expr) (f : Env → M Bool) : Prop := PT X e (tB_ ⟨X.K, cl⟩ E f)
abbrev DA (X : Cx) (cl : Cls_) (E : WX) (es : List Expr) (f : Env → M (List D)) : Prop := PA X es (tA ⟨X.K, cl⟩ E f)

theorem pe_imp {X : Cx} {e : Expr} {t t' : TE} (h : PE X e t) (i : ∀ σ H Q, t' σ H Q → t σ H Q) : PE X e t' := ⟨fun pins s σ H Q I q => h.run pins s σ H Q I (i σ H Q q)⟩
theorem pt_imp {X : Cx} {e : Expr} {t t' : TT} (h : PT X e t) (i : ∀ σ H Q, t' σ H Q → t σ H Q) : PT X e t' := ⟨fun pins s σ H Q I q => h.run pins s σ H Q I (i σ H Q q)⟩
theorem pa_imp {X : Cx} {e : List Expr} {t t' : TA} (h : PA X e t) (i : ∀ σ H Q, t' σ H Q → t σ H Q) : PA X e t' := ⟨fun pos pins s σ H Q I q => h.run pos pins s σ H Q I (i σ H Q q)⟩
theorem ps_imp {X : Cx} {e : Stmt} {t t' : TS} (h : PS X e t) (i : ∀ Dn σ H, t' Dn σ H → t Dn σ H) : PS X e t' := ⟨fun pins s σ H Dn I q => h.run pins s σ H Dn I (i Dn σ H q)⟩
theorem pss_imp {X : Cx} {e : List Stmt} {t t' : TS} (h : PSs X e t) (i : ∀ Dn σ H, t' Dn σ H → t Dn σ H) : PSs X e t' := ⟨fun pins s σ H Dn I q => h.run pins s σ H Dn I (i Dn σ H q)⟩

/-! ### statements -/
inductive Fl where
  | nx | rt (d : D) | bk | ct
inductive RS where
  | go (f : Fl) (ρ : Env) (S : Store)
  | exc (c : Str) (fs : List (Str × D)) (ρ : Env) (S : Store)
  | bad
abbrev Sm := Env → Store → RS
def wantF (G : Gx) (Dn : Ends) (W : Wd) (σ : L2.St) (H : Hp) : Fl → Prop
  | .nx => Dn.nx σ H
  | .rt d => ∀ v, Rp G W H v d → Dn.rt v H
  | .bk => Dn.bk σ H
  | .ct => Dn.ct σ H
def PoS (G : Gx) (E : WX) (W0 : Wd) (H0 : Hp) (W : Wd) (H : Hp) (r : RS) (R : Fl → Env → Store → Wd → Hp → L2.St → (Nat → Option Addr) → Prop) : Prop :=
  match r with
  | .go fl ρ' S' => ∀ W' H' σ' own', Lw W H W' H' → Ev G W0 H0 W' H' S' σ' ρ' own' → R fl ρ' S' W' H' σ' own'
  | .exc c fs ρ' S' => ∀ W' H' σ' own' cls dd, Lw W H W' H' → Ev G W0 H0 W' H' S' σ' ρ' own' → ExOk G W' H' c fs cls dd → E cls dd σ' H'
  | .bad => False
def tS (G : Gx) (E : WX) (f : Sm) : TS := fun Dn σ H => ∃ W0 H0 W S ρ own, Ev G W0 H0 W H S σ ρ own ∧ PoS G E W0 H0 W H (f ρ S) (fun fl _ _ W' H' σ' _ => wantF G Dn W' σ' H' fl)
abbrev DS (X : Cx) (cl : Cls_) (E : WX) (st : Stmt) (f : Sm) : Prop := PS X st (tS ⟨X.K, cl⟩ E f)
abbrev DSs (X : Cx) (cl : Cls_) (E : WX) (st : List Stmt) (f : Sm) : Prop := PSs X st (tS ⟨X.K, cl⟩ E f)
end DN
/-! DN2: expressions: names, constants, operators, comparisons, tests. -/
namespace DN
open PySem PySem.Spec PyProof.Rows L2

theorem bind_run {α β : Type} (m : M α) (k : α → M β) (S : Store) : (m >>= k) S = match m S with
  | .ok a S' => k a S'
  | .exc c fs S' => .exc c fs S'
  | .bad => .bad := rfl

/-! ### names, constants -/
def cVar (i : Nat) : Env → M D := fun ρ S => match ρ[i]? with
  | some (.val d) => .ok d S
  | _ => .bad
def cC (d : D) : Env → M D := fun _ => M.pure d
section
variable {X : Cx} {cl : Cls_} {E : WX}
theorem de_var' {i : Nat} {e : Expr} (h : PE X e (tVar i)) : DE X cl E e (cVar i) := by
  refine pe_imp h fun σ H Q ⟨W0, H0, W, S, ρ, own, ev, h⟩ => ?_
  unfold cVar at h
  cases q : ρ[i]? with
  | none => rw [q] at h; exact h.elim
  | some s =>
    rw [q] at h
    cases s with
    | un => exact h.elim
    | own xs => exact h.elim
    | val d =>
      obtain ⟨v, h1, h2⟩ := ev.sl i d q
      exact ⟨v, h1, Po.now ev.wk ev.st h v h2⟩
theorem de_var (i : Nat) {x : Str} {pos : Pos} (hN : X.N[i]? = some x := by rfl) (hv : Vis X.env.scope x := by first | exact Or.inl rfl | exact Or.inr (Or.inl rfl) | exact Or.inr (Or.inr rfl)) (hd : (x == ("__debug__" : Str)) = false := by decide)
    (hcd : (x == ("__classdict__" : Str)) = false := by decide) : DE X cl E (.Name x pos) (cVar i) := de_var' (pe_var hN hv hd hcd)
theorem de_c {e : Expr} {v : V} {d : D} (h : PE X e (tC v)) (r : ∀ W H, Rp ⟨X.K, cl⟩ W H v d) : DE X cl E e (cC d) := by
  refine pe_imp h fun σ H Q ⟨W0, H0, W, S, ρ, own, ev, h⟩ => ?_
  exact Po.now ev.wk ev.st h v (r _ _)
theorem de_int {i j pos} : DE X cl E (.Constant (.int i) j pos) (cC (.int i)) := de_c pe_int fun _ _ => .int i
theorem de_bl {b j pos} : DE X cl E (.Constant (.bool b) j pos) (cC (.bl b)) := de_c pe_bl fun _ _ => .bl b
theorem de_non {j pos} : DE X cl E (.Constant .none j pos) (cC .non) := de_c pe_non fun _ _ => .non
theorem de_str {x j pos} : DE X cl E (.Constant (.str x) j pos) (cC (.str x)) := de_c pe_str fun _ _ => .str x
/-- a module's constant that is an int or a text -/
theorem de_gint {x : Str} {i : Int} {t : Tok} {pos : Pos} (hm : X.mg x = some (.int i t)) (hg : Gl X x := by rfl) (hd : (x == ("__debug__" : Str)) = false := by decide) : DE X cl E (.Name x pos) (cC (.int i)) :=
  de_c (pe_glob hg hm (v := .int i) ⟨_, rfl⟩ hd) fun _ _ => .int i
theorem de_gstr {x : Str} {i : Str} {t : Tok} {pos : Pos} (hm : X.mg x = some (.str i t)) (hg : Gl X x := by rfl) (hd : (x == ("__debug__" : Str)) = false := by decide) : DE X cl E (.Name x pos) (cC (.str i)) :=
  de_c (pe_glob hg hm (v := .str i) ⟨_, rfl⟩ hd) fun _ _ => .str i
end

/-! ### two values, one value -/
def c2 (g : D → D → M D) (fa fb : Env → M D) : Env → M D := fun ρ => do let x ← fa ρ; let y ← fb ρ; g x y
def c1 (g : D → M D) (fa : Env → M D) : Env → M D := fun ρ => do let x ← fa ρ; g x
/-- the operation by data is the one by values -/
def OpD (K : PySem.W.Frag) (cl : Cls_) (r : R2) (g : D → D → M D) : Prop :=
  ∀ (E : WX) (σ : L2.St) (W : Wd) (H : Hp) (S : Store) (x y : V) (dx dy : D) (Q : VK), WOk W H → StOk ⟨K, cl⟩ W H S → Rp ⟨K, cl⟩ W H x dx → Rp ⟨K, cl⟩ W H y dy → Po ⟨K, cl⟩ E σ W H (g dx dy S) (RV ⟨K, cl⟩ Q) → r x y H Q
def UnD (K : PySem.W.Frag) (cl : Cls_) (r : V → Hp → VK → Prop) (g : D → M D) : Prop :=
  ∀ (E : WX) (σ : L2.St) (W : Wd) (H : Hp) (S : Store) (x : V) (dx : D) (Q : VK), WOk W H → StOk ⟨K, cl⟩ W H S → Rp ⟨K, cl⟩ W H x dx → Po ⟨K, cl⟩ E σ W H (g dx S) (RV ⟨K, cl⟩ Q) → r x H Q
/-- the answer is a scalar: nothing new stands -/
theorem Po.val {G : Gx} {E : WX} {σ : L2.St} {W : Wd} {H : Hp} {S : Store} {d : D} {v : V} {Q : VK} (w : WOk W H) (s : StOk G W H S) (h : Po G E σ W H (.ok d S) (RV G Q)) (r : Rp G W H v d) : Q v H := Po.now w s h v r
/-- a new object -/
theorem Po.new {G : Gx} {E : WX} {σ : L2.St} {W : Wd} {H : Hp} {S : Store} {d : D} {p : Addr} {o : HO} {Q : VK} (w : WOk W H) (s : StOk G W H S) (h : Po G E σ W H (.ok d S) (RV G Q)) (hp : H p = none)
    (r : Rp G W (upd H p o) (.ref p) d) : Q (.ref p) (upd H p o) :=
  h W _ (Le.same (Same.new hp)) (w.same (Same.new hp)) (s.same (Same.new hp)) _ r
section
variable {G : Gx} {W : Wd} {H : Hp} {p : Addr}
theorem WOk.free (w : WOk W H) (hp : H p = none) : ¬ W.B p := fun q => by
  obtain ⟨o, e, _⟩ := w.tr p q
  rw [hp] at e; cases e
theorem Rp.newTup {vs : List V} {ds : List D} (w : WOk W H) (hp : H p = none) (r : RpA G W H vs ds) : Rp G W (upd H p (.tup vs)) (.ref p) (.tup ds) :=
  .tup (.inl ⟨.inl upd_same, w.free hp⟩) (r.mono (Lw.same (Same.new hp)))
theorem Rp.newLst {vs : List V} {ds : List D} (w : WOk W H) (hp : H p = none) (r : RpA G W H vs ds) : Rp G W (upd H p (.lst vs)) (.ref p) (.lst ds) :=
  .lst upd_same (w.free hp) (r.mono (Lw.same (Same.new hp)))
end
section
variable {X : Cx} {cl : Cls_} {E : WX} {a b c : Expr} {fa fb fc : Env → M D} {pos : Pos}
/-- the first value, then what is made of it -/
theorem tE_bind {G : Gx} {E : WX} {fa : Env → M D} {k : Env → D → M D} {σ : L2.St} {H : Hp} {Q : VK} {R : V → Hp → Prop} (h : tE G E (fun ρ => fa ρ >>= k ρ) σ H Q)
    (hk : ∀ W0 H0 W1 H1 S1 ρ own v d, Ev G W0 H0 W1 H1 S1 σ ρ own → Rp G W1 H1 v d → Po G E σ W1 H1 (k ρ d S1) (RV G Q) → R v H1) : tE G E fa σ H R := by
  obtain ⟨W0, H0, W, S, ρ, own, ev, h⟩ := h
  exact ⟨W0, H0, W, S, ρ, own, ev, (Po.bind ev.wk h).imp fun d S1 W1 H1 l w s hh v rv => hk W0 H0 W1 H1 S1 ρ own v d (ev.mono l w s) rv hh⟩
theorem de_bin {op : Operator} {r : R2} {g : D → D → M D} (ho : OpR X (binaryOp op) r) (hr : OpD X.K cl r g) (ha : DE X cl E a fa) (hb : DE X cl E b fb) : DE X cl E (.BinOp a op b pos) (c2 g fa fb) := by
  refine pe_imp (pe_op ho ha hb) fun σ H Q h => ?_
  refine tE_bind h fun W0 H0 W1 H1 S1 ρ own x dx ev rx h1 => ?_
  refine ⟨W0, H0, W1, S1, ρ, own, ev, (Po.bind ev.wk h1).imp fun dy S2 W2 H2 l w s hh y ry => ?_⟩
  exact hr E σ W2 H2 S2 x y dx dy Q w s (rx.mono (l.lw ev.wk)) ry hh
theorem de_un {op : UnaryOp} {r : V → Hp → VK → Prop} {g : D → M D} (ho : UnR X (unaryOp op) r) (hr : UnD X.K cl r g) (ha : DE X cl E a fa) : DE X cl E (.UnaryOp op a pos) (c1 g fa) := by
  refine pe_imp (pe_un ho ha) fun σ H Q h => ?_
  refine tE_bind h fun W0 H0 W1 H1 S1 ρ own x dx ev rx h1 => ?_
  exact hr E σ W1 H1 S1 x dx Q ev.wk ev.st rx h1
end

/-! ### ints -/
def gAdd : D → D → M D
  | .int i, .int j => M.pure (.int (i + j))
  | .str a, .str b => if a.length + b.length ≤ 16777216 then M.pure (.str (a ++ b)) else M.bad
  | .tup xs, .tup ys => if xs.length + ys.length ≤ 16777216 then M.pure (.tup (xs ++ ys)) else M.bad
  | .lst xs, .lst ys => if xs.length + ys.length ≤ 16777216 then M.pure (.lst (xs ++ ys)) else M.bad
  | _, _ => M.bad
def gSub : D → D → M D
  | .int i, .int j => M.pure (.int (i - j))
  | _, _ => M.bad
def gMul : D → D → M D
  | .int i, .int j => if (-(2 ^ 64) < i ∧ i < 2 ^ 64) ∨ (-(2 ^ 64) < j ∧ j < 2 ^ 64) then M.pure (.int (i * j)) else M.bad
  | .tup xs, .int j => if xs.isEmpty = false ∧ 2 ≤ j ∧ j ≤ 1000 ∧ xs.length ≤ 1000 then M.pure (.tup (List.replicate j.toNat xs).flatten) else M.bad
  | .lst xs, .int j => if 0 ≤ j ∧ j ≤ 1000 ∧ xs.length ≤ 1000 then M.pure (.lst (List.replicate j.toNat xs).flatten) else M.bad
  | _, _ => M.bad
def gMod : D → D → M D
  | .int i, .int j => if 0 < j then M.pure (.int (i % j)) else M.bad
  | _, _ => M.bad
def gFdiv : D → D → M D
  | .int i, .int j => if 0 < j ∧ j < 1073741824 then M.pure (.int (i / j)) else M.bad
  | _, _ => M.bad
def gPow : D → D → M D
  | .int i, .int j => if 0 ≤ j ∧ (Builtin.Int.intBits i : Int) * j ≤ 134217728 then M.pure (.int (i ^ j.toNat)) else M.bad
  | _, _ => M.bad
def gNeg : D → M D
  | .int i => M.pure (.int (-i))
  | _ => M.bad
theorem po_bad {G : Gx} {E : WX} {σ : L2.St} {W : Wd} {H : Hp} {α : Type} {R : α → Store → Wd → Hp → Prop} (h : Po G E σ W H (.bad : Res α) R) : False := h
theorem po_if {G : Gx} {E : WX} {σ : L2.St} {W : Wd} {H : Hp} {α : Type} {S : Store} {R : α → Store → Wd → Hp → Prop} {c : Prop} [Decidable c] {m : M α} (h : Po G E σ W H ((if c then m else (M.bad : M α)) S) R) : c ∧ Po G E σ W H (m S) R := by
  by_cases hc : c
  · rw [if_pos hc] at h; exact ⟨hc, h⟩
  · rw [if_neg hc] at h; exact h.elim
theorem isline {n : Nat} (h : n ≤ 16777216) : n ≤ sizeLine := by rw [sizeLine_eq]; exact h
section
variable {X : Cx} {cl : Cls_}
theorem od_int {K : PySem.W.Frag} {C : Int → Int → Prop} [∀ i j, Decidable (C i j)] {z : Int → Int → Int} {g : D → D → M D} (hg : ∀ i j, g (.int i) (.int j) = if C i j then M.pure (.int (z i j)) else M.bad)
    (hb : ∀ x y, (∀ i j, ¬ (x = .int i ∧ y = .int j)) → g x y = M.bad) : OpD K cl (rI C fun i j => .int (z i j)) g := by
  intro E σ W H S x y dx dy Q w s rx ry h
  cases dx with
  | int i =>
    cases dy with
    | int j =>
      cases rx; cases ry
      rw [hg] at h
      obtain ⟨c, h⟩ := po_if h
      exact ⟨i, j, rfl, rfl, c, Po.val w s h (.int _)⟩
    | _ => rw [hb _ _ fun i j ⟨_, e⟩ => by cases e] at h; exact (po_bad h).elim
  | _ => rw [hb _ _ fun i j ⟨e, _⟩ => by cases e] at h; exact (po_bad h).elim
def rTrue (r : R2) : R2 := r
theorem od_sub {K : PySem.W.Frag} : OpD K cl (rI0 fun i j => .int (i - j)) gSub := by
  intro E σ W H S x y dx dy Q w s rx ry h
  cases dx with
  | int i =>
    cases dy with
    | int j => cases rx; cases ry; exact ⟨i, j, rfl, rfl, Po.val w s h (.int _)⟩
    | _ => exact (po_bad h).elim
  | _ => exact (po_bad h).elim
instance (i j : Int) : Decidable (CMul i j) := by unfold CMul; infer_instance
instance (i j : Int) : Decidable (CDiv i j) := by unfold CDiv; infer_instance
theorem RpA.rep {G : Gx} {W : Wd} {H : Hp} {vs : List V} {ds : List D} (h : RpA G W H vs ds) : ∀ n : Nat, RpA G W H (List.replicate n vs).flatten (List.replicate n ds).flatten
  | 0 => .nil
  | n + 1 => by rw [List.replicate_succ, List.replicate_succ, List.flatten_cons, List.flatten_cons]; exact h.app (RpA.rep h n)
def rMulA (K : PySem.W.Frag) : R2 := fun x y H Q => (rI CMul (fun i j => .int (i * j)) x y H Q) ∨ (rRepT K x y H Q) ∨ rRep x y H Q
theorem op_mulA : OpR X (binaryOp .Mult) (rMulA X.K) := op_mul.or (op_repT.or op_rep)
theorem od_mul {K : PySem.W.Frag} : OpD K cl (rMulA K) gMul := by
  intro E σ W H S x y dx dy Q w s rx ry h
  cases dx with
  | int i =>
    cases dy with
    | int j =>
      cases rx; cases ry
      obtain ⟨c, h⟩ := po_if h
      exact .inl ⟨i, j, rfl, rfl, c, Po.val w s h (.int _)⟩
    | _ => exact (po_bad h).elim
  | tup xs =>
    cases dy with
    | int j =>
      obtain ⟨⟨c1, c2, c3, c4⟩, h⟩ := po_if h
      cases rx with
      | @tup a vs _ ha ra =>
        cases ry
        refine .inr (.inl ⟨a, j, vs, rfl, rfl, ha.sq, fun e => ?_, c2, c3, by rw [ra.length]; exact c4, fun p hp => ?_⟩)
        · subst e
          cases ra
          cases c1
        · exact Po.new w s h hp (Rp.newTup w hp (ra.rep _))
    | _ => exact (po_bad h).elim
  | lst xs =>
    cases dy with
    | int j =>
      obtain ⟨⟨c1, c2, c3⟩, h⟩ := po_if h
      cases rx with
      | @lst a vs _ ha _ ra =>
        cases ry
        have hm : vs.length * j.toNat ≤ 1000 * 1000 := Nat.mul_le_mul (by rw [ra.length]; exact c3) (by omega)
        refine .inr (.inr ⟨a, j, vs, rfl, rfl, ha, by omega, by omega, isline (by omega), fun p hp => ?_⟩)
        exact Po.new w s h hp (Rp.newLst w hp (ra.rep _))
    | _ => exact (po_bad h).elim
  | _ => exact (po_bad h).elim
theorem od_mod {K : PySem.W.Frag} : OpD K cl (rI (fun _ j => 0 < j) fun i j => .int (i % j)) gMod := by
  intro E σ W H S x y dx dy Q w s rx ry h
  cases dx with
  | int i =>
    cases dy with
    | int j =>
      cases rx; cases ry
      obtain ⟨c, h⟩ := po_if h
      exact ⟨i, j, rfl, rfl, c, Po.val w s h (.int _)⟩
    | _ => exact (po_bad h).elim
  | _ => exact (po_bad h).elim
theorem od_fdiv {K : PySem.W.Frag} : OpD K cl (rI CDiv fun i j => .int (i / j)) gFdiv := by
  intro E σ W H S x y dx dy Q w s rx ry h
  cases dx with
  | int i =>
    cases dy with
    | int j =>
      cases rx; cases ry
      obtain ⟨c, h⟩ := po_if h
      exact ⟨i, j, rfl, rfl, c, Po.val w s h (.int _)⟩
    | _ => exact (po_bad h).elim
  | _ => exact (po_bad h).elim
def CPowW (i j : Int) : Prop := 0 ≤ j ∧ (Builtin.Int.intBits i : Int) * j ≤ 134217728
theorem op_powW : OpR X (binaryOp .Pow) (rI CPowW fun i j => .int (i ^ j.toNat)) := opI fun _ _ _ _ _ _ _ hc q => pow_int hc.1 (by have := hc.2; omega) q
theorem od_pow {K : PySem.W.Frag} : OpD K cl (rI CPowW fun i j => .int (i ^ j.toNat)) gPow := by
  intro E σ W H S x y dx dy Q w s rx ry h
  cases dx with
  | int i =>
    cases dy with
    | int j =>
      cases rx; cases ry
      obtain ⟨c, h⟩ := po_if h
      exact ⟨i, j, rfl, rfl, c, Po.val w s h (.int _)⟩
    | _ => exact (po_bad h).elim
  | _ => exact (po_bad h).elim
theorem ud_neg {K : PySem.W.Frag} : UnD K cl (rU fun i => .int (-i)) gNeg := by
  intro E σ W H S x dx Q w s rx h
  cases dx with
  | int i => cases rx; exact ⟨i, rfl, Po.val w s h (.int _)⟩
  | _ => exact (po_bad h).elim
/-- + of ints, texts, tuples, lists -/
def rAddA (K : PySem.W.Frag) : R2 := fun x y H Q => (rI0 (fun i j => .int (i + j)) x y H Q) ∨ (∃ i j, x = .str i ∧ y = .str j ∧ i.length + j.length ≤ sizeLine ∧ Q (.str (i ++ j)) H) ∨ (rCatA K x y H Q) ∨ rCat x y H Q
theorem op_addA : OpR X (binaryOp .Add) (rAddA X.K) := op_add.or (op_add_str.or (op_catA.or op_cat))
theorem od_add {K : PySem.W.Frag} : OpD K cl (rAddA K) gAdd := by
  intro E σ W H S x y dx dy Q w s rx ry h
  cases dx with
  | int i =>
    cases dy with
    | int j => cases rx; cases ry; exact .inl ⟨i, j, rfl, rfl, Po.val w s h (.int _)⟩
    | _ => exact (po_bad h).elim
  | str i =>
    cases dy with
    | str j =>
      cases rx; cases ry
      obtain ⟨c, h⟩ := po_if h
      exact .inr (.inl ⟨i, j, rfl, rfl, isline c, Po.val w s h (.str _)⟩)
    | _ => exact (po_bad h).elim
  | tup xs =>
    cases dy with
    | tup ys =>
      obtain ⟨c, h⟩ := po_if h
      cases rx with
      | @tup a vs _ ha ra =>
        cases ry with
        | @tup b us _ hb rb =>
          refine .inr (.inr (.inl ⟨a, b, vs, us, rfl, rfl, ha.sq, hb.sq, by rw [ra.length, rb.length]; exact isline c, fun e => ?_, fun _ e => ?_, fun _ _ p hp => ?_⟩))
          · subst e
            cases ra
            exact Po.val w s h (.tup hb rb)
          · subst e
            cases rb
            rw [List.append_nil] at h
            exact Po.val w s h (.tup ha ra)
          · exact Po.new w s h hp (Rp.newTup w hp (ra.app rb))
    | _ => exact (po_bad h).elim
  | lst xs =>
    cases dy with
    | lst ys =>
      obtain ⟨c, h⟩ := po_if h
      cases rx with
      | @lst a vs _ ha _ ra =>
        cases ry with
        | @lst b us _ hb _ rb =>
          refine .inr (.inr (.inr ⟨a, b, vs, us, rfl, rfl, ha, hb, by rw [ra.length, rb.length]; exact isline c, fun p hp => ?_⟩))
          exact Po.new w s h hp (Rp.newLst w hp (ra.app rb))
    | _ => exact (po_bad h).elim
  | _ => exact (po_bad h).elim
variable {E : WX} {a b c : Expr} {fa fb fc : Env → M D} {pos : Pos}
theorem de_add (ha : DE X cl E a fa) (hb : DE X cl E b fb) : DE X cl E (.BinOp a .Add b pos) (c2 gAdd fa fb) := de_bin op_addA od_add ha hb
theorem de_sub (ha : DE X cl E a fa) (hb : DE X cl E b fb) : DE X cl E (.BinOp a .Sub b pos) (c2 gSub fa fb) := de_bin op_sub od_sub ha hb
theorem de_mul (ha : DE X cl E a fa) (hb : DE X cl E b fb) : DE X cl E (.BinOp a .Mult b pos) (c2 gMul fa fb) := de_bin op_mulA od_mul ha hb
theorem de_mod (ha : DE X cl E a fa) (hb : DE X cl E b fb) : DE X cl E (.BinOp a .Mod b pos) (c2 gMod fa fb) := de_bin op_mod od_mod ha hb
theorem de_fdiv (ha : DE X cl E a fa) (hb : DE X cl E b fb) : DE X cl E (.BinOp a .FloorDiv b pos) (c2 gFdiv fa fb) := de_bin op_fdiv od_fdiv ha hb
theorem de_pow (ha : DE X cl E a fa) (hb : DE X cl E b fb) : DE X cl E (.BinOp a .Pow b pos) (c2 gPow fa fb) := de_bin op_powW od_pow ha hb
theorem de_neg (ha : DE X cl E a fa) : DE X cl E (.UnaryOp .USub a pos) (c1 gNeg fa) := de_un un_neg ud_neg ha
end

/-! ### comparisons -/
mutual
def toP : D → Option PyData
  | .non => some .none
  | .bl b => some (.bool b)
  | .int i => some (.int i)
  | .str x => some (.str x)
  | .tup xs => (toPs xs).map .tuple
  | .lst xs => (toPs xs).map .list
  | _ => none
def toPs : List D → Option (List PyData)
  | [] => some []
  | d :: ds => match toP d, toPs ds with
    | some p, some ps => some (p :: ps)
    | _, _ => none
end
section
variable {K : PySem.W.Frag} {cl : Cls_} {W : Wd} {H : Hp}
mutual
theorem Rp.dp : ∀ {d : D} {v : V} {p : PyData}, Rp ⟨K, cl⟩ W H v d → toP d = some p → Dp K H v p
  | .non, _, _, .non, e => by simp [toP] at e; subst e; exact .non
  | .bl b, _, _, .bl _, e => by simp [toP] at e; subst e; exact .bl b
  | .int b, _, _, .int _, e => by simp [toP] at e; subst e; exact .int b
  | .str b, _, _, .str _, e => by simp [toP] at e; subst e; exact .str b
  | .tup ds, _, _, .tup h r, e => by
    simp only [toP, Option.map_eq_some_iff] at e
    obtain ⟨ps, e1, e2⟩ := e
    subst e2
    exact .tup h.sq (RpA.dp r e1)
  | .lst ds, _, _, .lst h _ r, e => by
    simp only [toP, Option.map_eq_some_iff] at e
    obtain ⟨ps, e1, e2⟩ := e
    subst e2
    exact .lst (SqL.of h) (RpA.dp r e1)
  | .dct _, _, _, _, e => by simp [toP] at e
  | .mut _, _, _, _, e => by simp [toP] at e
  | .opq, _, _, _, e => by simp [toP] at e
  | .ins _ _, _, _, _, e => by simp [toP] at e
  | .exn _ _, _, _, _, e => by simp [toP] at e
  | .scr _, _, _, _, e => by simp [toP] at e
theorem RpA.dp : ∀ {ds : List D} {vs : List V} {ps : List PyData}, RpA ⟨K, cl⟩ W H vs ds → toPs ds = some ps → DpAll K H vs ps
  | [], _, _, .nil, e => by simp [toPs] at e; subst e; exact .nil
  | d :: ds, _, _, .cons r t, e => by
    unfold toPs at e
    cases q1 : toP d with
    | none => rw [q1] at e; simp at e
    | some p =>
      cases q2 : toPs ds with
      | none => rw [q1, q2] at e; simp at e
      | some ps =>
        rw [q1, q2] at e
        simp at e; subst e
        exact .cons (Rp.dp r q1) (RpA.dp t q2)
end
end
/-- == of data -/
def eqD (x y : D) : Option Bool := match toP x, toP y with
  | some p, some q => if SeqAt.shaped p = true ∧ SeqAt.shaped q = true then some (PyData.eqv p q) else none
  | _, _ => none
def gEq (x y : D) : M D := match eqD x y with
  | some b => M.pure (.bl b)
  | none => M.bad
def gNe (x y : D) : M D := match eqD x y with
  | some b => M.pure (.bl (!b))
  | none => M.bad
def gLt : D → D → M D
  | .int i, .int j => M.pure (.bl (decide (i < j)))
  | .str i, .str j => M.pure (.bl (decide (i.cps.toList < j.cps.toList)))
  | _, _ => M.bad
def gLe : D → D → M D
  | .int i, .int j => M.pure (.bl (decide (i ≤ j)))
  | .str i, .str j => M.pure (.bl (!decide (j.cps.toList < i.cps.toList)))
  | _, _ => M.bad
def gGt : D → D → M D
  | .int i, .int j => M.pure (.bl (decide (j < i)))
  | _, _ => M.bad
def gGe : D → D → M D
  | .int i, .int j => M.pure (.bl (decide (j ≤ i)))
  | _, _ => M.bad
def gIsN : D → D → M D
  | .non, .non => M.pure (.bl true)
  | _, .non => M.pure (.bl false)
  | _, _ => M.bad
def gNotN : D → D → M D
  | .non, .non => M.pure (.bl false)
  | _, .non => M.pure (.bl true)
  | _, _ => M.bad
section
variable {X : Cx} {K : PySem.W.Frag} {cl : Cls_}
theorem od_eq : OpD K cl (rEqD K) gEq := by
  intro E σ W H S x y dx dy Q w s rx ry h
  unfold gEq eqD at h
  cases q1 : toP dx with
  | none => rw [q1] at h; exact h.elim
  | some p =>
    cases q2 : toP dy with
    | none => rw [q1, q2] at h; exact h.elim
    | some q =>
      rw [q1, q2] at h
      dsimp only at h
      by_cases hc : SeqAt.shaped p = true ∧ SeqAt.shaped q = true
      · rw [if_pos hc] at h
        exact ⟨p, q, rx.dp q1, ry.dp q2, hc.1, hc.2, Po.val w s h (.bl _)⟩
      · rw [if_neg hc] at h; exact h.elim
theorem od_ne : OpD K cl (rNeD K) gNe := by
  intro E σ W H S x y dx dy Q w s rx ry h
  unfold gNe eqD at h
  cases q1 : toP dx with
  | none => rw [q1] at h; exact h.elim
  | some p =>
    cases q2 : toP dy with
    | none => rw [q1, q2] at h; exact h.elim
    | some q =>
      rw [q1, q2] at h
      dsimp only at h
      by_cases hc : SeqAt.shaped p = true ∧ SeqAt.shaped q = true
      · rw [if_pos hc] at h
        exact ⟨p, q, rx.dp q1, ry.dp q2, hc.1, hc.2, Po.val w s h (.bl _)⟩
      · rw [if_neg hc] at h; exact h.elim
def rLtA : R2 := fun x y H Q => (rI0 (fun i j => .bl (decide (i < j))) x y H Q) ∨ ∃ i j, x = .str i ∧ y = .str j ∧ Q (.bl (decide (i.cps.toList < j.cps.toList))) H
def rLeA : R2 := fun x y H Q => (rI0 (fun i j => .bl (decide (i ≤ j))) x y H Q) ∨ ∃ i j, x = .str i ∧ y = .str j ∧ Q (.bl (!decide (j.cps.toList < i.cps.toList))) H
theorem op_ltA : OpR X (compareOp .Lt) rLtA := op_lt.or op_lt_str
theorem op_leA : OpR X (compareOp .LtE) rLeA := op_le.or op_le_str
theorem od_lt : OpD K cl rLtA gLt := by
  intro E σ W H S x y dx dy Q w s rx ry h
  cases dx with
  | int i =>
    cases dy with
    | int j => cases rx; cases ry; exact .inl ⟨i, j, rfl, rfl, Po.val w s h (.bl _)⟩
    | _ => exact (po_bad h).elim
  | str i =>
    cases dy with
    | str j => cases rx; cases ry; exact .inr ⟨i, j, rfl, rfl, Po.val w s h (.bl _)⟩
    | _ => exact (po_bad h).elim
  | _ => exact (po_bad h).elim
theorem od_le : OpD K cl rLeA gLe := by
  intro E σ W H S x y dx dy Q w s rx ry h
  cases dx with
  | int i =>
    cases dy with
    | int j => cases rx; cases ry; exact .inl ⟨i, j, rfl, rfl, Po.val w s h (.bl _)⟩
    | _ => exact (po_bad h).elim
  | str i =>
    cases dy with
    | str j => cases rx; cases ry; exact .inr ⟨i, j, rfl, rfl, Po.val w s h (.bl _)⟩
    | _ => exact (po_bad h).elim
  | _ => exact (po_bad h).elim
theorem od_gt : OpD K cl (rI0 fun i j => .bl (decide (j < i))) gGt := by
  intro E σ W H S x y dx dy Q w s rx ry h
  cases dx with
  | int i =>
    cases dy with
    | int j => cases rx; cases ry; exact ⟨i, j, rfl, rfl, Po.val w s h (.bl _)⟩
    | _ => exact (po_bad h).elim
  | _ => exact (po_bad h).elim
theorem od_ge : OpD K cl (rI0 fun i j => .bl (decide (j ≤ i))) gGe := by
  intro E σ W H S x y dx dy Q w s rx ry h
  cases dx with
  | int i =>
    cases dy with
    | int j => cases rx; cases ry; exact ⟨i, j, rfl, rfl, Po.val w s h (.bl _)⟩
    | _ => exact (po_bad h).elim
  | _ => exact (po_bad h).elim
theorem od_isN : OpD K cl (fun x y H Q => y = .non ∧ Q (.bl (decide (x = .non))) H) gIsN := by
  intro E σ W H S x y dx dy Q w s rx ry h
  cases dy with
  | non =>
    cases ry
    refine ⟨rfl, ?_⟩
    cases rx <;> exact Po.val w s h (.bl _)
  | _ => cases dx <;> exact (po_bad h).elim
theorem od_notN : OpD K cl (fun x y H Q => y = .non ∧ Q (.bl (!decide (x = .non))) H) gNotN := by
  intro E σ W H S x y dx dy Q w s rx ry h
  cases dy with
  | non =>
    cases ry
    refine ⟨rfl, ?_⟩
    cases rx <;> exact Po.val w s h (.bl _)
  | _ => cases dx <;> exact (po_bad h).elim
end
section
variable {X : Cx} {cl : Cls_} {E : WX} {a b c : Expr} {fa fb fc : Env → M D} {pos : Pos}
theorem de_cmp {op : CmpOp} {r : R2} {g : D → D → M D} (ho : OpR X (compareOp op) r) (hr : OpD X.K cl r g) (ha : DE X cl E a fa) (hb : DE X cl E b fb) (hm : behindInMarks op b = false) : DE X cl E (.Compare a [op] [b] pos) (c2 g fa fb) := by
  refine pe_imp (pe_cmpR ho ha hb hm) fun σ H Q h => ?_
  refine tE_bind h fun W0 H0 W1 H1 S1 ρ own x dx ev rx h1 => ?_
  refine ⟨W0, H0, W1, S1, ρ, own, ev, (Po.bind ev.wk h1).imp fun dy S2 W2 H2 l w s hh y ry => ?_⟩
  exact hr E σ W2 H2 S2 x y dx dy Q w s (rx.mono (l.lw ev.wk)) ry hh
/-- a bool, as a test -/
def cB (f : Env → M D) : Env → M Bool := fun ρ => do
  let d ← f ρ
  match d with
  | .bl b => M.pure b
  | _ => M.bad
theorem tB_of {G : Gx} {f : Env → M D} {σ : L2.St} {H : Hp} {Q : Bool → Hp → Prop} (h : tB_ G E (cB f) σ H Q) : tE G E f σ H (fun x H' => ∃ k, x = .bl k ∧ Q k H') := by
  obtain ⟨W0, H0, W, S, ρ, own, ev, h⟩ := h
  refine ⟨W0, H0, W, S, ρ, own, ev, (Po.bind ev.wk h).imp fun d S1 W1 H1 l w s hh v rv => ?_⟩
  cases d with
  | bl b => cases rv; exact ⟨b, rfl, Po.now w s hh⟩
  | _ => exact hh.elim
theorem tE_mono {G : Gx} {f : Env → M D} {σ : L2.St} {H : Hp} {Q Q' : VK} (h : tE G E f σ H Q) (i : ∀ v H, Q v H → Q' v H) : tE G E f σ H Q' := by
  obtain ⟨W0, H0, W, S, ρ, own, ev, h⟩ := h
  exact ⟨W0, H0, W, S, ρ, own, ev, h.imp fun d S1 W1 H1 l w s hh v rv => i _ _ (hh v rv)⟩
theorem dt_cmp {op : CmpOp} {r : R2} {g : D → D → M D} (ho : OpR X (compareOp op) r) (hr : OpD X.K cl r g) (ha : DE X cl E a fa) (hb : DE X cl E b fb) (hm : behindInMarks op b = false) : DT X cl E (.Compare a [op] [b] pos) (cB (c2 g fa fb)) := by
  refine pt_imp (pt_cmpR ho ha hb hm) fun σ H Q h => ?_
  have h := tB_of h
  refine tE_bind h fun W0 H0 W1 H1 S1 ρ own x dx ev rx h1 => ?_
  refine ⟨W0, H0, W1, S1, ρ, own, ev, (Po.bind ev.wk h1).imp fun dy S2 W2 H2 l w s hh y ry => ?_⟩
  exact hr E σ W2 H2 S2 x y dx dy _ w s (rx.mono (l.lw ev.wk)) ry hh
/-- an expression that gives a bool (no comparison, and, or, not), as a test -/
theorem dt_val (h : DE X cl E a fa) (he : ∀ whole, isTrue a X.env whole = (do let v ← whole; standAt a.pos; holding [v] (truthy v)) := by intro _; rfl) : DT X cl E a (cB fa) :=
  pt_imp (pt_val h he) fun σ H Q h => tB_of h
def cNotB (f : Env → M Bool) : Env → M Bool := fun ρ => do let b ← f ρ; M.pure (!b)
def cAndB (f g : Env → M Bool) : Env → M Bool := fun ρ => do let b ← f ρ; if b then g ρ else M.pure false
def cOrB (f g : Env → M Bool) : Env → M Bool := fun ρ => do let b ← f ρ; if b then M.pure true else g ρ
theorem tB_bind {G : Gx} {α : Type} {fa : Env → M Bool} {k : Env → Bool → M Bool} {σ : L2.St} {H : Hp} {Q R : Bool → Hp → Prop} (h : tB_ G E (fun ρ => fa ρ >>= k ρ) σ H Q)
    (hk : ∀ W0 H0 W1 H1 S1 ρ own b, Ev G W0 H0 W1 H1 S1 σ ρ own → Po G E σ W1 H1 (k ρ b S1) (fun b _ _ H' => Q b H') → R b H1) : tB_ G E fa σ H R := by
  obtain ⟨W0, H0, W, S, ρ, own, ev, h⟩ := h
  exact ⟨W0, H0, W, S, ρ, own, ev, (Po.bind ev.wk h).imp fun d S1 W1 H1 l w s hh => hk W0 H0 W1 H1 S1 ρ own d (ev.mono l w s) hh⟩
theorem dt_not {ta : Env → M Bool} (h : DT X cl E a ta) : DT X cl E (.UnaryOp .Not a pos) (cNotB ta) :=
  pt_imp (pt_not h) fun σ H Q h => tB_bind (α := Bool) h fun _ _ _ _ _ _ _ b ev hh => Po.now ev.wk ev.st hh
/-- and, or: a test whatever its whole is -/
abbrev DW (X : Cx) (cl : Cls_) (E : WX) (e : Expr) (f : Env → M Bool) : Prop := PW X e (tB_ ⟨X.K, cl⟩ E f)
theorem pw_imp {e : Expr} {t t' : TT} (h : PW X e t) (i : ∀ σ H Q, t' σ H Q → t σ H Q) : PW X e t' := ⟨fun wh pins s σ H Q I q => h.run wh pins s σ H Q I (i σ H Q q)⟩
theorem dw_and1 {ta : Env → M Bool} (h : DT X cl E a ta) : DW X cl E (.BoolOp .And [a] pos) ta := pw_and1 h
theorem dw_or1 {ta : Env → M Bool} (h : DT X cl E a ta) : DW X cl E (.BoolOp .Or [a] pos) ta := pw_or1 h
theorem dw_and {rest : List Expr} {ta tb : Env → M Bool} (ha : DT X cl E a ta) (hb : DW X cl E (.BoolOp .And (b :: rest) pos) tb) : DW X cl E (.BoolOp .And (a :: b :: rest) pos) (cAndB ta tb) := by
  refine pw_imp (pw_and ha hb) fun σ H Q h => tB_bind (α := Bool) h fun W0 H0 W1 H1 S1 ρ own k ev hh => ?_
  cases k with
  | true =>
    rw [if_pos rfl] at hh
    rw [if_pos rfl]
    exact ⟨W0, H0, W1, S1, ρ, own, ev, hh⟩
  | false => exact Po.now ev.wk ev.st hh
theorem dw_or {rest : List Expr} {ta tb : Env → M Bool} (ha : DT X cl E a ta) (hb : DW X cl E (.BoolOp .Or (b :: rest) pos) tb) : DW X cl E (.BoolOp .Or (a :: b :: rest) pos) (cOrB ta tb) := by
  refine pw_imp (pw_or ha hb) fun σ H Q h => tB_bind (α := Bool) h fun W0 H0 W1 H1 S1 ρ own k ev hh => ?_
  cases k with
  | true => exact Po.now ev.wk ev.st hh
  | false =>
    rw [if_neg Bool.false_ne_true] at hh
    rw [if_neg Bool.false_ne_true]
    exact ⟨W0, H0, W1, S1, ρ, own, ev, hh⟩
theorem dw_t {ta : Env → M Bool} (h : DW X cl E a ta) : DT X cl E a ta := PW.pt h
/-! .. as values -/
def cAndV (f g : Env → M D) : Env → M D := fun ρ => do
  let d ← f ρ
  match d with
  | .bl true => g ρ
  | .bl false => M.pure (.bl false)
  | _ => M.bad
def cOrV (f g : Env → M D) : Env → M D := fun ρ => do
  let d ← f ρ
  match d with
  | .bl false => g ρ
  | .bl true => M.pure (.bl true)
  | _ => M.bad
def gNot : D → M D
  | .bl b => M.pure (.bl (!b))
  | _ => M.bad
theorem de_one {op} (h : DE X cl E a fa) : DE X cl E (.BoolOp op [a] pos) fa := pe_one h
theorem de_and {rest : List Expr} (ha : DE X cl E a fa) (hb : DE X cl E (.BoolOp .And (b :: rest) pos) fb) : DE X cl E (.BoolOp .And (a :: b :: rest) pos) (cAndV fa fb) := by
  refine pe_imp (pe_and ha hb) fun σ H Q h => tE_bind h fun W0 H0 W1 H1 S1 ρ own x dx ev rx hh => ?_
  cases dx with
  | bl k =>
    cases rx
    refine ⟨k, rfl, ?_⟩
    cases k with
    | true => rw [if_pos rfl]; exact ⟨W0, H0, W1, S1, ρ, own, ev, hh⟩
    | false => exact Po.val ev.wk ev.st hh (.bl _)
  | _ => exact hh.elim
theorem de_or {rest : List Expr} (ha : DE X cl E a fa) (hb : DE X cl E (.BoolOp .Or (b :: rest) pos) fb) : DE X cl E (.BoolOp .Or (a :: b :: rest) pos) (cOrV fa fb) := by
  refine pe_imp (pe_or ha hb) fun σ H Q h => tE_bind h fun W0 H0 W1 H1 S1 ρ own x dx ev rx hh => ?_
  cases dx with
  | bl k =>
    cases rx
    refine ⟨k, rfl, ?_⟩
    cases k with
    | false => rw [if_neg Bool.false_ne_true]; exact ⟨W0, H0, W1, S1, ρ, own, ev, hh⟩
    | true => exact Po.val ev.wk ev.st hh (.bl _)
  | _ => exact hh.elim
theorem de_not (ha : DE X cl E a fa) : DE X cl E (.UnaryOp .Not a pos) (c1 gNot fa) := by
  refine pe_imp (pe_not ha) fun σ H Q h => tE_bind h fun W0 H0 W1 H1 S1 ρ own x dx ev rx hh => ?_
  cases dx with
  | bl k => cases rx; exact ⟨k, rfl, Po.val ev.wk ev.st hh (.bl _)⟩
  | _ => exact hh.elim
/-- a if t else b -/
def cIf (t : Env → M Bool) (f g : Env → M D) : Env → M D := fun ρ => do let b ← t ρ; if b then f ρ else g ρ
theorem de_if {ta : Env → M Bool} (ht : DT X cl E c ta) (ha : DE X cl E a fa) (hb : DE X cl E b fb) : DE X cl E (.IfExp c a b pos) (cIf ta fa fb) := by
  refine pe_imp (pe_ifExp ht ha hb) fun σ H Q ⟨W0, H0, W, S, ρ, own, ev, h⟩ => ?_
  refine ⟨W0, H0, W, S, ρ, own, ev, (Po.bind ev.wk h).imp fun k S1 W1 H1 l w s hh => ?_⟩
  have ev1 := ev.mono l w s
  cases k with
  | true =>
    refine iteT ?_
    exact ⟨W0, H0, W1, S1, ρ, own, ev1, hh⟩
  | false =>
    refine iteF ?_
    exact ⟨W0, H0, W1, S1, ρ, own, ev1, hh⟩
/-- a op1 b op2 c -/
def cChain (g1 g2 : D → D → M D) (fa fb fc : Env → M D) : Env → M D := fun ρ => do
  let x ← fa ρ
  let y ← fb ρ
  let k ← g1 x y
  match k with
  | .bl true => do let z ← fc ρ; g2 y z
  | .bl false => M.pure (.bl false)
  | _ => M.bad
theorem tChain_of {G : Gx} {r r' : R2} {g1 g2 : D → D → M D} {σ : L2.St} {H : Hp} {Q : VK} (hr : OpD G.K G.cl r g1) (hr' : OpD G.K G.cl r' g2) (h : tE G E (cChain g1 g2 fa fb fc) σ H Q) : tChain r r' (tE G E fa) (tE G E fb) (tE G E fc) σ H Q := by
  refine tE_bind h fun W0 H0 W1 H1 S1 ρ own x dx ev rx h1 => ?_
  refine ⟨W0, H0, W1, S1, ρ, own, ev, (Po.bind ev.wk h1).imp fun dy S2 W2 H2 l w s hh y ry => ?_⟩
  have ev2 := ev.mono l w s
  have rx2 := rx.mono (l.lw ev.wk)
  refine hr E σ W2 H2 S2 x y dx dy _ w s rx2 ry ((Po.bind w hh).imp fun k S3 W3 H3 l3 w3 s3 h3 v rv => ?_)
  have ev3 := ev2.mono l3 w3 s3
  cases k with
  | bl k =>
    cases rv
    refine ⟨k, rfl, ?_⟩
    cases k with
    | true =>
      rw [if_pos rfl]
      refine ⟨W0, H0, W3, S3, ρ, own, ev3, (Po.bind w3 h3).imp fun dz S4 W4 H4 l4 w4 s4 h4 z rz => ?_⟩
      exact hr' E σ W4 H4 S4 y z dy dz Q w4 s4 ((ry.mono (l3.lw w)).mono (l4.lw w3)) rz h4
    | false =>
      rw [if_neg Bool.false_ne_true]
      exact Po.val w3 s3 h3 (.bl _)
  | _ => exact h3.elim
theorem de_chain {op op' : CmpOp} {r r' : R2} {g1 g2 : D → D → M D} (ho : OpR X (compareOp op) r) (ho' : OpR X (compareOp op') r') (hr : OpD X.K cl r g1) (hr' : OpD X.K cl r' g2) (ha : DE X cl E a fa) (hb : DE X cl E b fb) (hc : DE X cl E c fc)
    (hm : lastMarks [op, op'] [b, c] = false := by with_unfolding_all rfl) : DE X cl E (.Compare a [op, op'] [b, c] pos) (cChain g1 g2 fa fb fc) :=
  pe_imp (pe_chain ho ho' ha hb hc hm) fun σ H Q h => tChain_of (G := ⟨X.K, cl⟩) hr hr' h
theorem dt_chain {op op' : CmpOp} {r r' : R2} {g1 g2 : D → D → M D} (ho : OpR X (compareOp op) r) (ho' : OpR X (compareOp op') r') (hr : OpD X.K cl r g1) (hr' : OpD X.K cl r' g2) (ha : DE X cl E a fa) (hb : DE X cl E b fb) (hc : DE X cl E c fc)
    (hm : lastMarks [op, op'] [b, c] = false := by with_unfolding_all rfl) : DT X cl E (.Compare a [op, op'] [b, c] pos) (cB (cChain g1 g2 fa fb fc)) :=
  pt_imp (pt_chain ho ho' ha hb hc hm) fun σ H Q h => tChain_of (G := ⟨X.K, cl⟩) hr hr' (tB_of h)
end
end DN
/-! DN3: argument lists, displays, subscripts, calls, iteration, comprehensions. -/
namespace DN
open PySem PySem.Spec PyProof.Rows L2

/-! ### argument lists, displays -/
def cNil : Env → M (List D) := fun _ => M.pure []
def cCons (fa : Env → M D) (fs : Env → M (List D)) : Env → M (List D) := fun ρ => do let x ← fa ρ; let xs ← fs ρ; M.pure (x :: xs)
section
variable {X : Cx} {cl : Cls_} {E : WX} {e : Expr} {es : List Expr} {fa : Env → M D} {fs : Env → M (List D)} {pos : Pos}
theorem da_nil : DA X cl E [] cNil := pa_imp pa_nil fun σ H Q ⟨W0, H0, W, S, ρ, own, ev, h⟩ => Po.now ev.wk ev.st h [] .nil
theorem da_cons (ha : DE X cl E e fa) (hs : DA X cl E es fs) (hst : starEach (e :: es) X.env = (false, eval e X.env) :: starEach es X.env := by rfl) : DA X cl E (e :: es) (cCons fa fs) := by
  refine pa_imp (pa_cons ha hs hst) fun σ H Q ⟨W0, H0, W, S, ρ, own, ev, h⟩ => ?_
  refine ⟨W0, H0, W, S, ρ, own, ev, (Po.bind ev.wk h).imp fun d S1 W1 H1 l w s hh v rv => ?_⟩
  refine ⟨W0, H0, W1, S1, ρ, own, ev.mono l w s, (Po.bind w hh).imp fun ds S2 W2 H2 l2 w2 s2 h2 vs rvs => ?_⟩
  exact Po.now w2 s2 h2 _ (.cons (rv.mono (l2.lw w)) rvs)
def gTup (ds : List D) : M D := if ds.length ≤ 16777216 then M.pure (.tup ds) else M.bad
def gLst (ds : List D) : M D := if ds.length ≤ 16777216 then M.pure (.lst ds) else M.bad
/-- a list that the store keeps -/
def gLstM (ds : List D) : M D := fun S => if ds.length ≤ 16777216 then .ok (.mut S.length) (S ++ [.lst ds]) else .bad
def cA (g : List D → M D) (fs : Env → M (List D)) : Env → M D := fun ρ => do let xs ← fs ρ; g xs
theorem tA_bind {G : Gx} {k : List D → M D} {σ : L2.St} {H : Hp} {Q : VK} {R : List V → Hp → Prop} (h : tE G E (cA k fs) σ H Q)
    (hk : ∀ W0 H0 W1 H1 S1 ρ own vs ds, Ev G W0 H0 W1 H1 S1 σ ρ own → RpA G W1 H1 vs ds → Po G E σ W1 H1 (k ds S1) (RV G Q) → R vs H1) : tA G E fs σ H R := by
  obtain ⟨W0, H0, W, S, ρ, own, ev, h⟩ := h
  exact ⟨W0, H0, W, S, ρ, own, ev, (Po.bind ev.wk h).imp fun d S1 W1 H1 l w s hh v rv => hk W0 H0 W1 H1 S1 ρ own v d (ev.mono l w s) rv hh⟩
theorem de_tup {k} (hs : DA X cl E es fs) : DE X cl E (.Tuple es k pos) (cA gTup fs) := by
  refine pe_imp (pe_tup hs) fun σ H Q h => tA_bind h fun W0 H0 W1 H1 S1 ρ own vs ds ev r hh => ?_
  obtain ⟨c, hh⟩ := po_if hh
  exact ⟨by rw [r.length]; exact isline c, fun p hp => Po.new ev.wk ev.st hh hp (Rp.newTup ev.wk hp r)⟩
theorem de_lst (hs : DA X cl E es fs) : DE X cl E (.List es pos) (cA gLst fs) := by
  refine pe_imp (pe_lst hs) fun σ H Q h => tA_bind h fun W0 H0 W1 H1 S1 ρ own vs ds ev r hh => ?_
  obtain ⟨c, hh⟩ := po_if hh
  exact ⟨by rw [r.length]; exact isline c, fun p hp => Po.new ev.wk ev.st hh hp (Rp.newLst ev.wk hp r)⟩
/-- a new cell -/
theorem new_cell {G : Gx} {W : Wd} {H : Hp} {S : Store} {p : Addr} {o : HO} {c : Cell} (w : WOk W H) (s : StOk G W H S) (hp : H p = none)
    (hc : ∀ W', Lw W H W' (upd H p o) → CellOk G W' (upd H p o) p c) (t : nt o := by intro _ z; cases z) : ∃ W', Le W H W' (upd H p o) ∧ WOk W' (upd H p o) ∧ StOk G W' (upd H p o) (S ++ [c]) ∧ W'.phi S.length = some p := by
  have nb := w.free hp
  have sm := Same.new (o := o) hp
  have lw : Lw W H ⟨fun n => if n = S.length then some p else W.phi n, fun a => W.B a ∨ a = p⟩ (upd H p o) := by
    refine ⟨fun n a h => ?_, fun a h => ?_, fun b u h _ _ => sm b u h⟩
    · have ne : n ≠ S.length := fun e => by subst e; rw [s.top _ (Nat.le_refl _)] at h; cases h
      show (if n = S.length then some p else W.phi n) = some a
      rw [if_neg ne]; exact h
    · rcases h with h | rfl
      · exact .inl h
      · exact .inr (.of hp)
  refine ⟨_, ⟨lw.ph, fun n a h => ?_, fun a h => .inl h, lw.Bn, fun b u h _ => .inr (sm b u h)⟩, ⟨fun a h => ?_, fun n a h => ?_, fun n m a h1 h2 => ?_⟩, ⟨fun n c' h => ?_, fun n h => ?_, s.tb.ext sm⟩, if_pos rfl⟩
  · by_cases e : n = S.length
    · have h : (if n = S.length then some p else W.phi n) = some a := h
      rw [if_pos e] at h
      cases h; exact .inr (.of hp)
    · have h : (if n = S.length then some p else W.phi n) = some a := h
      rw [if_neg e] at h
      exact .inl h
  · rcases h with h | rfl
    · obtain ⟨u, e, tu⟩ := w.tr a h
      exact ⟨u, sm a u e, tu⟩
    · exact ⟨o, upd_same, t⟩
  · have h : (if n = S.length then some p else W.phi n) = some a := h
    by_cases e : n = S.length
    · rw [if_pos e] at h
      cases h; exact .inr rfl
    · rw [if_neg e] at h
      exact .inl (w.rg n a h)
  · have h1 : (if n = S.length then some p else W.phi n) = some a := h1
    have h2 : (if m = S.length then some p else W.phi m) = some a := h2
    by_cases e : n = S.length
    · rw [if_pos e] at h1
      cases h1
      by_cases e2 : m = S.length
      · rw [e, e2]
      · rw [if_neg e2] at h2
        exact absurd (w.rg m _ h2) nb
    · rw [if_neg e] at h1
      by_cases e2 : m = S.length
      · rw [if_pos e2] at h2
        cases h2
        exact absurd (w.rg n _ h1) nb
      · rw [if_neg e2] at h2
        exact w.ij n m a h1 h2
  · by_cases hn : n < S.length
    · rw [List.getElem?_append_left hn] at h
      obtain ⟨a, e1, e2⟩ := s.at_ n c' h
      refine ⟨a, lw.ph n a e1, e2.same lw fun u q => sm a u q⟩
    · have e : n = S.length := by
        have := (List.getElem?_eq_some_iff.mp h).1
        rw [List.length_append, List.length_singleton] at this
        omega
      subst e
      rw [List.getElem?_append_right (Nat.le_refl _), Nat.sub_self] at h
      cases h
      exact ⟨p, if_pos rfl, hc _ lw⟩
  · rw [List.length_append, List.length_singleton] at h
    show (if n = S.length then some p else W.phi n) = none
    rw [if_neg (by omega)]
    exact s.top n (by omega)
theorem de_lstM (hs : DA X cl E es fs) : DE X cl E (.List es pos) (cA gLstM fs) := by
  refine pe_imp (pe_lst hs) fun σ H Q h => tA_bind h fun W0 H0 W1 H1 S1 ρ own vs ds ev r hh => ?_
  unfold gLstM at hh
  by_cases c : ds.length ≤ 16777216
  · rw [if_pos c] at hh
    refine ⟨by rw [r.length]; exact isline c, fun p hp => ?_⟩
    obtain ⟨W', l, w, s, e⟩ := new_cell (c := .lst ds) ev.wk ev.st hp fun W' lw => ⟨vs, upd_same, r.mono lw⟩
    exact hh W' _ l w s _ (.mut e)
  · rw [if_neg c] at hh
    exact hh.elim
end

/-! ### items, slices -/
def sGet (n : Nat) : M Cell := fun S => match S[n]? with
  | some c => .ok c S
  | none => .bad
def ofOpt {α : Type} : Option α → M α
  | some d => M.pure d
  | none => M.bad
def gIx : D → D → M D
  | .tup xs, .int i => ofOpt (atI xs i)
  | .lst xs, .int i => ofOpt (atI xs i)
  | .scr ns, .int i => ofOpt ((atI ns i).map D.int)
  | .str z, .int i => if z.length ≤ 16777216 then ofOpt ((atI z.cps.toList i).map fun c => D.str ⟨#[c]⟩) else M.bad
  | .mut n, .int i => fun S => match S[n]? with
    | some (.lst xs) => ofOpt (atI xs i) S
    | _ => .bad
  | _, _ => M.bad
theorem atI_map {α β : Type} (f : α → β) (xs : List α) (i : Int) : atI (xs.map f) i = (atI xs i).map f := by
  unfold atI
  rw [List.length_map]
  cases ixN xs.length i with
  | none => rfl
  | some j => simp
theorem atI_rel {G : Gx} {W : Wd} {H : Hp} {vs : List V} {ds : List D} {i : Int} {d : D} (r : RpA G W H vs ds) (h : atI ds i = some d) : ∃ v, atI vs i = some v ∧ Rp G W H v d := by
  unfold atI at h ⊢
  rw [r.length]
  cases q : ixN ds.length i with
  | none => rw [q] at h; cases h
  | some j =>
    rw [q] at h
    exact r.get h
section
variable {X : Cx} {cl : Cls_} {K : PySem.W.Frag}
theorem po_opt {G : Gx} {E : WX} {σ : L2.St} {W : Wd} {H : Hp} {S : Store} {α : Type} {o : Option α} {R : α → Store → Wd → Hp → Prop} (h : Po G E σ W H (ofOpt o S) R) : ∃ d, o = some d ∧ Po G E σ W H (.ok d S) R := by
  cases o with
  | none => exact h.elim
  | some d => exact ⟨d, rfl, h⟩
theorem od_ix : OpD K cl (rIx K) gIx := by
  intro E σ W H S x y dx dy Q w s rx ry h
  cases dy with
  | int i =>
    cases ry
    cases dx with
    | tup xs =>
      obtain ⟨d, e, h⟩ := po_opt h
      cases rx with
      | tup ha ra =>
        obtain ⟨v, e1, r1⟩ := atI_rel ra e
        exact .inr (.inl ⟨_, _, i, v, rfl, rfl, ha.sq, e1, Po.val w s h r1⟩)
    | lst xs =>
      obtain ⟨d, e, h⟩ := po_opt h
      cases rx with
      | lst ha _ ra =>
        obtain ⟨v, e1, r1⟩ := atI_rel ra e
        exact .inl ⟨_, _, i, v, rfl, rfl, SqL.of ha, e1, Po.val w s h r1⟩
    | scr ns =>
      obtain ⟨d, e, h⟩ := po_opt h
      obtain ⟨k, e1, e2⟩ := Option.map_eq_some_iff.mp e
      subst e2
      cases rx with
      | scr ha => exact .inl ⟨_, _, i, .int k, rfl, rfl, ha.sq, by rw [atI_map, e1]; rfl, Po.val w s h (.int k)⟩
    | str z =>
      obtain ⟨c, h⟩ := po_if h
      obtain ⟨d, e, h⟩ := po_opt h
      obtain ⟨k, e1, e2⟩ := Option.map_eq_some_iff.mp e
      subst e2
      cases rx
      exact .inr (.inr ⟨z, i, k, rfl, rfl, isline c, e1, Po.val w s h (.str _)⟩)
    | «mut» n =>
      unfold gIx at h
      dsimp only at h
      cases q : S[n]? with
      | none => rw [q] at h; exact h.elim
      | some c =>
        rw [q] at h
        cases c with
        | dct _ => exact h.elim
        | lst xs =>
          obtain ⟨d, e, h⟩ := po_opt h
          obtain ⟨a, e1, vs, e2, ra⟩ := s.at_ n _ q
          cases rx with
          | «mut» e0 =>
            rw [e1] at e0; cases e0
            obtain ⟨v, e3, r1⟩ := atI_rel ra e
            exact .inl ⟨_, _, i, v, rfl, rfl, SqL.of e2, e3, Po.val w s h r1⟩
    | _ => exact (po_bad h).elim
  | _ => cases dx <;> exact (po_bad h).elim
variable {E : WX} {a b : Expr} {fa fb : Env → M D} {pos : Pos}
theorem de_ix (ha : DE X cl E a fa) (hb : DE X cl E b fb) (hs : PlainIx b := by exact fun _ _ => rfl) : DE X cl E (.Subscript a b pos) (c2 gIx fa fb) := by
  refine pe_imp (pe_ix ix_seq ha hb hs) fun σ H Q h => ?_
  refine tE_bind h fun W0 H0 W1 H1 S1 ρ own x dx ev rx h1 => ?_
  refine ⟨W0, H0, W1, S1, ρ, own, ev, (Po.bind ev.wk h1).imp fun dy S2 W2 H2 l w s hh y ry => ?_⟩
  exact od_ix E σ W2 H2 S2 x y dx dy Q w s (rx.mono (l.lw ev.wk)) ry hh
/-! slices -/
def cutD {α : Type} (xs : List α) (lo hi : Option Int) : List α := (xs.drop (HT.sIx xs.length 0 lo)).take (HT.sIx xs.length xs.length hi - HT.sIx xs.length 0 lo)
def gSl (x : D) (lo hi : Option Int) : M D := match x with
  | .tup xs => M.pure (.tup (cutD xs lo hi))
  | .lst xs => M.pure (.lst (cutD xs lo hi))
  | .str z => if z.length ≤ 16777216 then M.pure (.str (cutS z lo hi)) else M.bad
  | _ => M.bad
def cPart (fa : Env → M D) : Env → M (Option Int) := fun ρ => do
  let d ← fa ρ
  match d with
  | .int i => M.pure (some i)
  | _ => M.bad
def cNoP : Env → M (Option Int) := fun _ => M.pure none
def cSl (fa : Env → M D) (fl fh : Env → M (Option Int)) : Env → M D := fun ρ => do let x ← fa ρ; let l ← fl ρ; let h ← fh ρ; gSl x l h
def tO (G : Gx) (E : WX) (f : Env → M (Option Int)) : TO := fun σ H Q => ∃ W0 H0 W S ρ own, Ev G W0 H0 W H S σ ρ own ∧ Po G E σ W H (f ρ S) (fun o _ _ H' => Q o H')
abbrev DO_ (X : Cx) (cl : Cls_) (E : WX) (e : Option Expr) (f : Env → M (Option Int)) : Prop := PO X e (tO ⟨X.K, cl⟩ E f)
theorem po_imp {e : Option Expr} {t t' : TO} (h : PO X e t) (i : ∀ σ H Q, t' σ H Q → t σ H Q) : PO X e t' := ⟨fun pins s σ H Q I q => h.run pins s σ H Q I (i σ H Q q)⟩
theorem do_none : DO_ X cl E none cNoP := po_imp po_none fun σ H Q ⟨W0, H0, W, S, ρ, own, ev, h⟩ => Po.now ev.wk ev.st h
theorem do_some (ha : DE X cl E a fa) : DO_ X cl E (some a) (cPart fa) := by
  refine po_imp (po_some ha) fun σ H Q ⟨W0, H0, W, S, ρ, own, ev, h⟩ => ?_
  refine ⟨W0, H0, W, S, ρ, own, ev, (Po.bind ev.wk h).imp fun d S1 W1 H1 l w s hh v rv => ?_⟩
  cases d with
  | int i => cases rv; exact ⟨i, rfl, Po.now w s hh⟩
  | _ => exact hh.elim
def rSlX (K : PySem.W.Frag) : V → Option Int → Option Int → Hp → VK → Prop := fun x lo hi H Q => rSlA K x lo hi H Q ∨ rSlL K x lo hi H Q ∨ ∃ z, x = .str z ∧ z.length ≤ sizeLine ∧ Q (.str (cutS z lo hi)) H
theorem cutV_cut (xs : List V) (lo hi : Option Int) : cutV xs lo hi = cutD xs lo hi := rfl
theorem RpA.cut {G : Gx} {W : Wd} {H : Hp} {vs : List V} {ds : List D} (r : RpA G W H vs ds) (lo hi : Option Int) : RpA G W H (cutD vs lo hi) (cutD ds lo hi) := by
  unfold cutD
  rw [r.length]
  exact (r.drop _).take _
theorem cut_whole {α : Type} {xs : List α} {lo hi : Option Int} (h : HT.sIx xs.length 0 lo = 0 ∧ HT.sIx xs.length xs.length hi = xs.length) : cutD xs lo hi = xs := by
  unfold cutD
  rw [h.1, h.2, List.drop_zero, Nat.sub_zero, List.take_length]
theorem sd_sl {σ : L2.St} {W : Wd} {H : Hp} {S : Store} {x : V} {dx : D} {lo hi : Option Int} {Q : VK} (w : WOk W H) (s : StOk ⟨K, cl⟩ W H S) (rx : Rp ⟨K, cl⟩ W H x dx) (h : Po ⟨K, cl⟩ E σ W H (gSl dx lo hi S) (RV ⟨K, cl⟩ Q)) : rSlX K x lo hi H Q := by
  cases dx with
  | tup xs =>
    cases rx with
    | @tup a vs _ ha ra =>
      refine .inl ⟨a, vs, rfl, ha.sq, fun e => ?_, fun e p hp => ?_⟩
      · rw [ra.length] at e
        have h : Po ⟨K, cl⟩ E σ W H (.ok (.tup (cutD xs lo hi)) S) (RV ⟨K, cl⟩ Q) := h
        rw [cut_whole e] at h
        exact Po.val w s h (.tup ha ra)
      · exact Po.new w s h hp (Rp.newTup w hp (ra.cut lo hi))
  | lst xs =>
    cases rx with
    | @lst a vs _ ha _ ra => exact .inr (.inl ⟨a, vs, rfl, SqL.of ha, fun p hp => Po.new w s h hp (Rp.newLst w hp (ra.cut lo hi))⟩)
  | str z =>
    cases rx
    obtain ⟨c, h⟩ := po_if h
    exact .inr (.inr ⟨z, rfl, isline c, Po.val w s h (.str _)⟩)
  | _ => exact (po_bad h).elim
theorem de_sl {lo hi : Option Expr} {fl fh : Env → M (Option Int)} {p2 : Pos} (ha : DE X cl E a fa) (hl : DO_ X cl E lo fl) (hh : DO_ X cl E hi fh) : DE X cl E (.Subscript a (.Slice lo hi none p2) pos) (cSl fa fl fh) := by
  refine pe_imp (pe_slice (r := rSlX X.K) (sl_tupA.or (sl_list.or sl_str)) ha hl hh) fun σ H Q h => ?_
  refine tE_bind h fun W0 H0 W1 H1 S1 ρ own x dx ev rx h1 => ?_
  refine ⟨W0, H0, W1, S1, ρ, own, ev, (Po.bind ev.wk h1).imp fun l S2 W2 H2 l2 w2 s2 h2 => ?_⟩
  have ev2 := ev.mono l2 w2 s2
  have rx2 := rx.mono (l2.lw ev.wk)
  refine ⟨W0, H0, W2, S2, ρ, own, ev2, (Po.bind w2 h2).imp fun u S3 W3 H3 l3 w3 s3 h3 => ?_⟩
  exact sd_sl w3 s3 (rx2.mono (l3.lw w2)) h3
end

/-! ### calls of built-ins -/
def CallD (K : PySem.W.Frag) (cl : Cls_) (r : List V → Hp → VK → Prop) (g : List D → M D) : Prop :=
  ∀ (E : WX) (σ : L2.St) (W : Wd) (H : Hp) (S : Store) (vs : List V) (ds : List D) (Q : VK), WOk W H → StOk ⟨K, cl⟩ W H S → RpA ⟨K, cl⟩ W H vs ds → Po ⟨K, cl⟩ E σ W H (g ds S) (RV ⟨K, cl⟩ Q) → r vs H Q
def gLen : List D → M D
  | [.tup xs] => M.pure (.int xs.length)
  | [.lst xs] => M.pure (.int xs.length)
  | [.scr xs] => M.pure (.int xs.length)
  | [.str z] => if z.length ≤ 16777216 then M.pure (.int z.length) else M.bad
  | _ => M.bad
def gInt : List D → M D
  | [.int i] => M.pure (.int i)
  | [.bl k] => M.pure (.int (if k then 1 else 0))
  | _ => M.bad
def gAbs : List D → M D
  | [.int i] => M.pure (.int (if i < 0 then -i else i))
  | _ => M.bad
def gMax2 : List D → M D
  | [.int i, .int j] => M.pure (.int (if j > i then j else i))
  | _ => M.bad
def gMin2 : List D → M D
  | [.int i, .int j] => M.pure (.int (if j < i then j else i))
  | _ => M.bad
def gTuple : List D → M D
  | [.tup xs] => M.pure (.tup xs)
  | [.lst xs] => M.pure (.tup xs)
  | _ => M.bad
def gList : List D → M D
  | [.tup xs] => M.pure (.lst xs)
  | [.lst xs] => M.pure (.lst xs)
  | _ => M.bad
def blsD : List D → Option (List Bool)
  | [] => some []
  | .bl b :: ds => (blsD ds).map (b :: ·)
  | _ :: _ => none
def gAll : List D → M D
  | [.lst xs] => match blsD xs with
    | some bs => M.pure (.bl (bs.all id))
    | none => M.bad
  | _ => M.bad
def gAny : List D → M D
  | [.lst xs] => match blsD xs with
    | some bs => M.pure (.bl (bs.any id))
    | none => M.bad
  | _ => M.bad
section
variable {X : Cx} {cl : Cls_} {K : PySem.W.Frag}
theorem RpA.inv1 {G : Gx} {W : Wd} {H : Hp} {vs : List V} {d : D} (r : RpA G W H vs [d]) : ∃ v, vs = [v] ∧ Rp G W H v d := by
  cases r with
  | cons r t => cases t; exact ⟨_, rfl, r⟩
theorem RpA.inv2 {G : Gx} {W : Wd} {H : Hp} {vs : List V} {d e : D} (r : RpA G W H vs [d, e]) : ∃ v u, vs = [v, u] ∧ Rp G W H v d ∧ Rp G W H u e := by
  cases r with
  | cons r t =>
    obtain ⟨u, rfl, r2⟩ := RpA.inv1 t
    exact ⟨_, u, rfl, r, r2⟩
theorem RpA.bls {G : Gx} {W : Wd} {H : Hp} : ∀ {ds : List D} {vs : List V} {bs : List Bool}, RpA G W H vs ds → blsD ds = some bs → vs = bs.map V.bl
  | [], _, _, .nil, e => by simp [blsD] at e; subst e; rfl
  | d :: ds, _, bs, .cons r t, e => by
    cases d with
    | bl b =>
      simp only [blsD, Option.map_eq_some_iff] at e
      obtain ⟨bs', e1, e2⟩ := e
      subst e2
      cases r
      rw [RpA.bls t e1]; rfl
    | _ => simp [blsD] at e
theorem cd_len : CallD K cl (fun xs H Q => ∃ x n, xs = [x] ∧ LenV K x H n ∧ Q (.int n) H) gLen := by
  intro E σ W H S vs ds Q w s r h
  match ds, h with
  | [.tup xs], h =>
    obtain ⟨v, rfl, rv⟩ := r.inv1
    cases rv with
    | tup ha ra => exact ⟨_, xs.length, rfl, .inr ⟨_, ha.sq, ra.length.symm⟩, Po.val w s h (.int _)⟩
  | [.lst xs], h =>
    obtain ⟨v, rfl, rv⟩ := r.inv1
    cases rv with
    | lst ha _ ra => exact ⟨_, xs.length, rfl, .inl ⟨_, SqL.of ha, ra.length.symm⟩, Po.val w s h (.int _)⟩
  | [.scr xs], h =>
    obtain ⟨v, rfl, rv⟩ := r.inv1
    cases rv with
    | scr ha => exact ⟨_, xs.length, rfl, .inl ⟨_, ha.sq, by rw [List.length_map]⟩, Po.val w s h (.int _)⟩
  | [.str z], h =>
    obtain ⟨v, rfl, rv⟩ := r.inv1
    cases rv
    obtain ⟨c, h⟩ := po_if h
    exact ⟨_, z.length, rfl, ⟨isline c, rfl⟩, Po.val w s h (.int _)⟩
theorem cd_int : CallD K cl (fun xs H Q => (∃ i, xs = [.int i] ∧ Q (.int i) H) ∨ ∃ k, xs = [.bl k] ∧ Q (.int (if k then 1 else 0)) H) gInt := by
  intro E σ W H S vs ds Q w s r h
  match ds, h with
  | [.int i], h =>
    obtain ⟨v, rfl, rv⟩ := r.inv1
    cases rv
    exact .inl ⟨i, rfl, Po.val w s h (.int _)⟩
  | [.bl k], h =>
    obtain ⟨v, rfl, rv⟩ := r.inv1
    cases rv
    exact .inr ⟨k, rfl, Po.val w s h (.int _)⟩
theorem cd_abs : CallD K cl (fun xs H Q => ∃ i, xs = [.int i] ∧ Q (.int (if i < 0 then -i else i)) H) gAbs := by
  intro E σ W H S vs ds Q w s r h
  match ds, h with
  | [.int i], h =>
    obtain ⟨v, rfl, rv⟩ := r.inv1
    cases rv
    exact ⟨i, rfl, Po.val w s h (.int _)⟩
theorem cd_max2 : CallD K cl (fun xs H Q => ∃ i j, xs = [.int i, .int j] ∧ Q (.int (if j > i then j else i)) H) gMax2 := by
  intro E σ W H S vs ds Q w s r h
  match ds, h with
  | [.int i, .int j], h =>
    obtain ⟨v, u, rfl, rv, ru⟩ := r.inv2
    cases rv; cases ru
    exact ⟨i, j, rfl, Po.val w s h (.int _)⟩
theorem cd_min2 : CallD K cl (fun xs H Q => ∃ i j, xs = [.int i, .int j] ∧ Q (.int (if j < i then j else i)) H) gMin2 := by
  intro E σ W H S vs ds Q w s r h
  match ds, h with
  | [.int i, .int j], h =>
    obtain ⟨v, u, rfl, rv, ru⟩ := r.inv2
    cases rv; cases ru
    exact ⟨i, j, rfl, Po.val w s h (.int _)⟩
theorem cd_tuple : CallD K cl (fun xs H Q => ∃ p ys, xs = [.ref p] ∧ ((SqL K H p ys ∧ ∀ l, H l = none → Q (.ref l) (upd H l (.tup ys))) ∨ (SqT K H p ys ∧ Q (.ref p) H))) gTuple := by
  intro E σ W H S vs ds Q w s r h
  match ds, h with
  | [.tup xs], h =>
    obtain ⟨v, rfl, rv⟩ := r.inv1
    cases rv with
    | tup ha ra => exact ⟨_, _, rfl, .inr ⟨ha.sq, Po.val w s h (.tup ha ra)⟩⟩
  | [.lst xs], h =>
    obtain ⟨v, rfl, rv⟩ := r.inv1
    cases rv with
    | lst ha _ ra => exact ⟨_, _, rfl, .inl ⟨SqL.of ha, fun p hp => Po.new w s h hp (Rp.newTup w hp ra)⟩⟩
theorem cd_list : CallD K cl (fun xs H Q => ∃ p ys, xs = [.ref p] ∧ (SqL K H p ys ∨ SqT K H p ys) ∧ ∀ l, H l = none → Q (.ref l) (upd H l (.lst ys))) gList := by
  intro E σ W H S vs ds Q w s r h
  match ds, h with
  | [.tup xs], h =>
    obtain ⟨v, rfl, rv⟩ := r.inv1
    cases rv with
    | tup ha ra => exact ⟨_, _, rfl, .inr ha.sq, fun p hp => Po.new w s h hp (Rp.newLst w hp ra)⟩
  | [.lst xs], h =>
    obtain ⟨v, rfl, rv⟩ := r.inv1
    cases rv with
    | lst ha _ ra => exact ⟨_, _, rfl, .inl (SqL.of ha), fun p hp => Po.new w s h hp (Rp.newLst w hp ra)⟩
theorem cd_all : CallD K cl (rAll K) gAll := by
  intro E σ W H S vs ds Q w s r h
  match ds, h with
  | [.lst xs], h =>
    obtain ⟨v, rfl, rv⟩ := r.inv1
    cases rv with
    | lst ha _ ra =>
      unfold gAll at h
      dsimp only at h
      cases q : blsD xs with
      | none => rw [q] at h; exact h.elim
      | some bs =>
        rw [q] at h
        have e := ra.bls q
        subst e
        exact ⟨_, bs, rfl, SqL.of ha, Po.val w s h (.bl _)⟩
theorem cd_any : CallD K cl (rAny K) gAny := by
  intro E σ W H S vs ds Q w s r h
  match ds, h with
  | [.lst xs], h =>
    obtain ⟨v, rfl, rv⟩ := r.inv1
    cases rv with
    | lst ha _ ra =>
      unfold gAny at h
      dsimp only at h
      cases q : blsD xs with
      | none => rw [q] at h; exact h.elim
      | some bs =>
        rw [q] at h
        have e := ra.bls q
        subst e
        exact ⟨_, bs, rfl, SqL.of ha, Po.val w s h (.bl _)⟩
variable {E : WX} {x : Str} {p pos : Pos} {e : Expr} {es : List Expr} {fs : Env → M (List D)} {id T : String} {r : List V → Hp → VK → Prop} {g : List D → M D}
theorem de_callB (hc : CallR X (.builtin id) r) (hd : CallD X.K cl r g) (hm : X.mg x = none) (ha : DA X cl E (e :: es) fs) (hv : bootBuiltins x = some (.builtin id) := by decide +kernel) (hg : Gl X x := by rfl) (hn : x ≠ "__name__" := by decide) (hdb : (x == ("__debug__" : Str)) = false := by decide)
    (he : starEach (e :: es) X.env = (false, eval e X.env) :: starEach es X.env := by rfl) (hpl : (backTo pos (starEach es X.env)).any (·.1) = false := by rfl) : DE X cl E (.Call (.Name x p) (e :: es) [] pos) (cA g fs) :=
  pe_imp (pe_callB hc hg hm hv ha hn hdb he hpl) fun σ H Q h => tA_bind h fun W0 H0 W1 H1 S1 ρ own vs ds ev rv hh => hd E σ W1 H1 S1 vs ds Q ev.wk ev.st rv hh
theorem de_callTy (hc : CallR X (.type T) r) (hd : CallD X.K cl r g) (hm : X.mg x = none) (ha : DA X cl E (e :: es) fs) (hv : bootBuiltins x = some (.type T) := by decide +kernel) (hg : Gl X x := by rfl) (hn : x ≠ "__name__" := by decide) (hdb : (x == ("__debug__" : Str)) = false := by decide)
    (he : starEach (e :: es) X.env = (false, eval e X.env) :: starEach es X.env := by rfl) (hpl : (backTo pos (starEach es X.env)).any (·.1) = false := by rfl) : DE X cl E (.Call (.Name x p) (e :: es) [] pos) (cA g fs) :=
  pe_imp (pe_callTy hc hg hm hv ha hn hdb he hpl) fun σ H Q h => tA_bind h fun W0 H0 W1 H1 S1 ρ own vs ds ev rv hh => hd E σ W1 H1 S1 vs ds Q ev.wk ev.st rv hh
end

/-! ### isinstance with a built-in class -/
def tyD : D → Option String
  | .non => some "NoneType"
  | .bl _ => some "bool"
  | .int _ => some "int"
  | .str _ => some "str"
  | .tup _ => some "tuple"
  | .lst _ => some "list"
  | .dct _ => some "dict"
  | .scr _ => some "list"
  | .opq => some "dict"
  | _ => none
def isiD (T : String) (t : String) : Bool := t == T || (t == "bool" && T == "int")
def gIsi (T : String) (d : D) : M D := match tyD d with
  | some t => M.pure (.bl (isiD T t))
  | none => M.bad
def tyNames : List String := ["NoneType", "bool", "int", "str", "tuple", "list", "dict"]
theorem isi_kit (T t : String) (hT : T ∈ ["bool", "int", "str", "tuple", "list", "dict"]) (ht : t ∈ tyNames) : kitB t T = some (isiD T t) := by
  have key : ∀ T ∈ ["bool", "int", "str", "tuple", "list", "dict"], ∀ t ∈ tyNames, kitB t T = some (isiD T t) := by decide +kernel
  exact key T hT t ht
section
variable {X : Cx} {cl : Cls_} {E : WX} {a : Expr} {fa : Env → M D} {pos : Pos}
theorem LstAt.tyx {G : Gx} {W : Wd} {H : Hp} {a : Addr} {xs : List V} (h : LstAt G W H a xs) : TyX G.K H (.ref a) (.type "list") := by
  rcases h with ⟨h | ⟨o, h⟩, _⟩ | ⟨o, its, n, h, hc, _⟩
  · exact .base (.lst h)
  · exact .base (.frz h)
  · exact .kList h hc
theorem TupAt.tyx {G : Gx} {W : Wd} {H : Hp} {a : Addr} {xs : List V} (h : TupAt G W H a xs) : TyX G.K H (.ref a) (.type "tuple") := by
  rcases h with ⟨h | ⟨o, h⟩, _⟩ | ⟨o, its, n, h, hc, _⟩
  · exact .base (.tup h)
  · exact .fTuple h
  · exact .kTuple h hc
def TyZ (K : PySem.W.Frag) (H : Hp) (x : V) (t : Value) : Prop := TyX K H x t ∨ (t = .type "dict" ∧ ∃ a, x = .ref a ∧ H a = some (OpqO a))
def rIsiZ (K : PySem.W.Frag) : List V → Hp → VK → Prop := fun xs H Q => ∃ (x c : V) (t u : Value) (b : Bool), xs = [x, c] ∧ ClsV c u ∧ TyZ K H x t ∧ PySem.W.kitOne K t u = some b ∧ Q (.bl b) H
theorem call_isiZ {X : Cx} : CallR X (.builtin "isinstance") (rIsiZ X.K) := by
  intro pins s σ H xs us Q I r ⟨x, c, t, u, b, ex, k, ty, e, q⟩
  rcases ty with ty | ⟨et, a, ea, ha⟩
  · exact call_isi pins s σ H xs us Q I r ⟨x, c, t, u, b, ex, k, ty, e, q⟩
  · subst ex et ea
    obtain ⟨u1, u2, rfl, r1, r2⟩ := vals2 r
    have e2 := k.eq r2
    subst e2
    cases r1
    obtain ⟨p, _⟩ := I.hok a _ ha
    exact PySem.W.kia_one PySem.W.kitx_dict I.kIn p e (fun z => nomatch z) fun tk => ⟨.bl b, H, I.tok tk, rfl, q⟩
theorem Rp.tyx {G : Gx} {W : Wd} {H : Hp} {v : V} {d : D} {t : String} (r : Rp G W H v d) (h : tyD d = some t) : TyZ G.K H v (.type t) ∧ t ∈ tyNames := by
  cases r with
  | opq ha _ => cases h; exact ⟨.inr ⟨rfl, _, rfl, ha⟩, by decide⟩
  | exn0 _ _ _ => cases h
  | exn1 _ _ _ _ _ _ => cases h
  | non => cases h; exact ⟨.inl (.base .non), by decide⟩
  | bl b => cases h; exact ⟨.inl (.base (.bl b)), by decide⟩
  | int i => cases h; exact ⟨.inl (.base (.int i)), by decide⟩
  | str x => cases h; exact ⟨.inl (.base (.str x)), by decide⟩
  | tup ha _ => cases h; exact ⟨.inl ha.tyx, by decide⟩
  | lst ha _ _ => cases h; exact ⟨.inl (.base (.lst ha)), by decide⟩
  | dct ha _ _ => cases h; exact ⟨.inl (.base (.dK ha)), by decide⟩
  | scr ha => cases h; exact ⟨.inl ha.tyx, by decide⟩
  | «mut» _ => cases h
  | ins _ _ _ _ => cases h
theorem de_isi {x : Str} {T : String} {p p2 : Pos} (hT : T ∈ ["bool", "int", "str", "tuple", "list", "dict"]) (hm : X.mg "isinstance" = none) (hm2 : X.mg x = none) (ha : DE X cl E a fa) (hv : bootBuiltins x = some (.type T) := by decide +kernel) (hg : Gl X "isinstance" := by rfl) (hg2 : Gl X x := by rfl)
    (hn : x ≠ "__name__" := by decide) (hdb : (x == ("__debug__" : Str)) = false := by decide)
    (he : starEach (a :: [.Name x p2]) X.env = (false, eval a X.env) :: starEach [.Name x p2] X.env := by rfl) (he2 : starEach (.Name x p2 :: []) X.env = (false, eval (.Name x p2) X.env) :: starEach [] X.env := by rfl) (hpl : (backTo pos (starEach [.Name x p2] X.env)).any (·.1) = false := by rfl) :
    DE X cl E (.Call (.Name "isinstance" p) [a, .Name x p2] [] pos) (c1 (gIsi T) fa) := by
  refine pe_imp (pe_callB call_isiZ hg hm (by decide +kernel) (pa_cons ha (pa_cons (pe_bltn (v := .ty T) hg2 hm2 hv rfl hn hdb) pa_nil he2) he) (by decide) (by decide) he hpl) fun σ H Q h => ?_
  refine tE_bind h fun W0 H0 W1 H1 S1 ρ own x dx ev rx hh => ?_
  unfold gIsi at hh
  cases q : tyD dx with
  | none => rw [q] at hh; exact hh.elim
  | some t =>
    rw [q] at hh
    obtain ⟨ty, ht⟩ := rx.tyx q
    exact ⟨x, .ty T, .type t, .type T, _, rfl, .ty T, ty, kit_ty (isi_kit T t hT ht), Po.val ev.wk ev.st hh (.bl _)⟩
end
end DN
/-! DN4: what is walked, targets, statements, comprehensions. -/
namespace DN
open PySem PySem.Spec PyProof.Rows L2

/-! ### what is walked -/
structure Wk (G : Gx) (J : It) (ds : List D) (W : Wd) (H : Hp) : Prop where
  go : ∀ W1 H1, Lw W H W1 H1 → WOk W1 H1 → ∀ (i : Nat) (d : D), ds[i]? = some d → J.go i H1 ∧ ∀ x H2, J.yld i H1 x H2 → Same H1 H2 ∧ Rp G W1 H2 x d
  stop : ∀ W1 H1, Lw W H W1 H1 → ∀ i, ds.length ≤ i → J.stop i H1
def tI (G : Gx) (E : WX) (f : Env → M (List D)) : TI := fun σ H R => ∃ W0 H0 W S ρ own, Ev G W0 H0 W H S σ ρ own ∧ Po G E σ W H (f ρ S) (fun ds _ W' H' => ∀ J, Wk G J ds W' H' → R J H')
abbrev DI (X : Cx) (cl : Cls_) (E : WX) (tg e : Expr) (f : Env → M (List D)) : Prop := PI X tg e (tI ⟨X.K, cl⟩ E f)
theorem pi_imp {X : Cx} {tg e : Expr} {t t' : TI} (h : PI X tg e t) (i : ∀ σ H R, t' σ H R → t σ H R) : PI X tg e t' := ⟨fun pins s σ H R I q => h.run pins s σ H R I (i σ H R q)⟩
theorem pi_or {X : Cx} {tg e : Expr} {t u : TI} (h : PI X tg e t) (k : PI X tg e u) : PI X tg e (fun σ H R => t σ H R ∨ u σ H R) :=
  ⟨fun pins s σ H R I q => q.elim (h.run pins s σ H R I) (k.run pins s σ H R I)⟩
def chD (z : Str) : List D := z.cps.toList.map fun c => D.str ⟨#[c]⟩
def itemsD : D → M (List D)
  | .tup xs => M.pure xs
  | .lst xs => M.pure xs
  | .scr ns => M.pure (ns.map D.int)
  | .str z => M.pure (chD z)
  | _ => M.bad
def cIt (fa : Env → M D) : Env → M (List D) := fun ρ => do let d ← fa ρ; itemsD d
theorem TupAt.len {G : Gx} {W : Wd} {H : Hp} {a : Addr} {xs : List V} (_ : TupAt G W H a xs) : True := trivial
section
variable {G : Gx} {W : Wd} {H : Hp} {a : Addr} {vs : List V} {ds : List D}
/-- all readings of one list are alike (by the invariant; here: by what the rule asks) -/
theorem wk_lst (h : H a = some (.lst vs)) (nb : ¬ W.B a) (K : G.K.lookup a = none ∨ True) (r : RpA G W H vs ds) : ∀ W1 H1, Lw W H W1 H1 → H1 a = some (.lst vs) ∧ RpA G W1 H1 vs ds := fun W1 H1 l => ⟨l.kp _ _ h nb, r.mono l⟩
end
/-- the items that a walk over a list yields: those of any reading of it; the one that stands is one -/
theorem yl {K : PySem.W.Frag} {H : Hp} {a : Addr} {vs : List V} {i : Nat} {x y : V} (h : ∀ xs, SqL K H a xs → xs[i]? = some x) (s : SqL K H a vs) (e : vs[i]? = some y) : x = y := by
  have := h vs s
  rw [e] at this; cases this; rfl
theorem ylT {K : PySem.W.Frag} {H : Hp} {a : Addr} {vs : List V} {i : Nat} {x y : V} (h : ∀ xs, SqT K H a xs → xs[i]? = some x) (s : SqT K H a vs) (e : vs[i]? = some y) : x = y := by
  have := h vs s
  rw [e] at this; cases this; rfl
section
variable {X : Cx} {cl : Cls_} {E : WX} {tg e : Expr} {fa fb : Env → M D}
theorem Wk.lst {G : Gx} {W : Wd} {H : Hp} {a : Addr} {vs : List V} {ds : List D} (sq : ∀ W1 H1, Lw W H W1 H1 → SqL G.K H1 a vs) (r : RpA G W H vs ds) : Wk G (Itl G.K a) ds W H := by
  refine ⟨fun W1 H1 l w i d hi => ?_, fun W1 H1 l i hi => ⟨vs, sq W1 H1 l, by rw [r.length]; exact hi⟩⟩
  obtain ⟨v, e1, rv⟩ := r.get hi
  refine ⟨⟨vs, v, sq W1 H1 l, e1⟩, fun x H2 ⟨e2, h2⟩ => ?_⟩
  subst e2
  have e3 := yl h2 (sq W1 _ l) e1
  subst e3
  exact ⟨Same.refl _, rv.mono l⟩
theorem Wk.tup {G : Gx} {W : Wd} {H : Hp} {a : Addr} {vs : List V} {ds : List D} (sq : ∀ W1 H1, Lw W H W1 H1 → SqT G.K H1 a vs) (r : RpA G W H vs ds) : Wk G (Itt G.K a) ds W H := by
  refine ⟨fun W1 H1 l w i d hi => ?_, fun W1 H1 l i hi => ⟨vs, sq W1 H1 l, by rw [r.length]; exact hi⟩⟩
  obtain ⟨v, e1, rv⟩ := r.get hi
  refine ⟨⟨vs, v, sq W1 H1 l, e1⟩, fun x H2 ⟨e2, h2⟩ => ?_⟩
  subst e2
  have e3 := ylT h2 (sq W1 _ l) e1
  subst e3
  exact ⟨Same.refl _, rv.mono l⟩
theorem RpA.ints {G : Gx} {W : Wd} {H : Hp} : ∀ (ns : List Int), RpA G W H (ns.map V.int) (ns.map D.int)
  | [] => .nil
  | n :: ns => .cons (.int n) (RpA.ints ns)
theorem Wk.str {G : Gx} {W : Wd} {H : Hp} (z : Str) : Wk G (Its z) (chD z) W H := by
  refine ⟨fun W1 H1 l w i d hi => ?_, fun W1 H1 l i hi => ?_⟩
  · unfold chD at hi
    rw [List.getElem?_map] at hi
    obtain ⟨c, e1, e2⟩ := Option.map_eq_some_iff.mp hi
    subst e2
    have e3 : z.cps[i]? = some c := by rw [← Array.getElem?_toList]; exact e1
    refine ⟨?_, fun x H2 ⟨e4, c', e5, e6⟩ => ?_⟩
    · show i < z.cps.size
      exact (Array.getElem?_eq_some_iff.mp e3).1
    · subst e4 e6
      rw [e3] at e5; cases e5
      exact ⟨Same.refl _, .str _⟩
  · show z.cps.size ≤ i
    unfold chD at hi
    simpa using hi
theorem di_seq (ha : DE X cl E e fa) : DI X cl E tg e (cIt fa) := by
  refine pi_imp (pi_or (pi_list ha) (pi_or (pi_tup ha) (pi_str ha))) fun σ H R ⟨W0, H0, W, S, ρ, own, ev, h⟩ => ?_
  have h := Po.bind (m := fa ρ) (k := itemsD) ev.wk h
  cases q : fa ρ S with
  | bad => rw [q] at h; exact h.elim
  | exc c fs S1 => exact .inl ⟨W0, H0, W, S, ρ, own, ev, by rw [q] at h ⊢; exact h⟩
  | ok d S1 =>
    cases d with
    | lst xs =>
      refine .inl ⟨W0, H0, W, S, ρ, own, ev, ?_⟩
      rw [q] at h ⊢
      intro W1 H1 l w s v rv
      have hh := h W1 H1 l w s
      cases rv with
      | @lst a vs _ ha nb ra => exact ⟨a, rfl, ⟨vs, SqL.of ha⟩, Po.now w s hh _ (Wk.lst (G := ⟨X.K, cl⟩) (fun W2 H2 l2 => SqL.of (l2.kp _ _ ha nb)) ra)⟩
    | scr ns =>
      refine .inl ⟨W0, H0, W, S, ρ, own, ev, ?_⟩
      rw [q] at h ⊢
      intro W1 H1 l w s v rv
      have hh := h W1 H1 l w s
      cases rv with
      | @scr a _ ha => exact ⟨a, rfl, ⟨_, ha.sq⟩, Po.now w s hh _ (Wk.lst (G := ⟨X.K, cl⟩) (fun W2 H2 l2 => (ha.mono l2).sq) (RpA.ints ns))⟩
    | tup xs =>
      refine .inr (.inl ⟨W0, H0, W, S, ρ, own, ev, ?_⟩)
      rw [q] at h ⊢
      intro W1 H1 l w s v rv
      have hh := h W1 H1 l w s
      cases rv with
      | @tup a vs _ ha ra => exact ⟨a, rfl, ⟨vs, ha.sq⟩, Po.now w s hh _ (Wk.tup (G := ⟨X.K, cl⟩) (fun W2 H2 l2 => (ha.mono l2).sq) ra)⟩
    | str z =>
      refine .inr (.inr ⟨W0, H0, W, S, ρ, own, ev, ?_⟩)
      rw [q] at h ⊢
      intro W1 H1 l w s v rv
      have hh := h W1 H1 l w s
      cases rv
      exact ⟨z, rfl, Po.now w s hh _ (Wk.str z)⟩
    | _ =>
      refine .inl ⟨W0, H0, W, S, ρ, own, ev, ?_⟩
      rw [q] at h ⊢
      intro W1 H1 l w s v rv
      exact (show False from h W1 H1 l w s).elim
/-! ranges -/
def rngD (lo : Int) (n : Nat) : List D := (List.range n).map fun k => D.int (lo + (k : Nat))
theorem Wk.rng {G : Gx} {W : Wd} {H : Hp} (lo : Int) (n : Nat) : Wk G (Itr lo n) (rngD lo n) W H := by
  refine ⟨fun W1 H1 l w i d hi => ?_, fun W1 H1 l i hi => ?_⟩
  · unfold rngD at hi
    rw [List.getElem?_map] at hi
    obtain ⟨c, e1, e2⟩ := Option.map_eq_some_iff.mp hi
    subst e2
    obtain ⟨h1, h2⟩ := List.getElem?_eq_some_iff.mp e1
    rw [List.getElem_range] at h2
    subst h2
    refine ⟨?_, fun x H2 ⟨e4, e5⟩ => ?_⟩
    · show i < n
      simpa using h1
    · subst e4 e5
      exact ⟨Same.refl _, .int _⟩
  · show n ≤ i
    unfold rngD at hi
    simpa using hi
def rng1 : D → M (List D)
  | .int j => if -(2 ^ 62) ≤ j ∧ j < 2 ^ 62 then M.pure (rngD 0 j.toNat) else M.bad
  | _ => M.bad
def rng2 : D → D → M (List D)
  | .int i, .int j => if -(2 ^ 62) ≤ i ∧ i < 2 ^ 62 ∧ -(2 ^ 62) ≤ j ∧ j < 2 ^ 62 then M.pure (rngD i (j - i).toNat) else M.bad
  | _, _ => M.bad
def cRng1 (fa : Env → M D) : Env → M (List D) := fun ρ => do let d ← fa ρ; rng1 d
def cRng2 (fa fb : Env → M D) : Env → M (List D) := fun ρ => do let x ← fa ρ; let y ← fb ρ; rng2 x y
theorem tI_bind {G : Gx} {E : WX} {fa : Env → M D} {k : Env → D → M (List D)} {σ : L2.St} {H : Hp} {Q : It → Hp → Prop} {R : V → Hp → Prop} (h : tI G E (fun ρ => fa ρ >>= k ρ) σ H Q)
    (hk : ∀ W0 H0 W1 H1 S1 ρ own v d, Ev G W0 H0 W1 H1 S1 σ ρ own → Rp G W1 H1 v d → Po G E σ W1 H1 (k ρ d S1) (fun ds _ W' H' => ∀ J, Wk G J ds W' H' → Q J H') → R v H1) : tE G E fa σ H R := by
  obtain ⟨W0, H0, W, S, ρ, own, ev, h⟩ := h
  exact ⟨W0, H0, W, S, ρ, own, ev, (Po.bind ev.wk h).imp fun d S1 W1 H1 l w s hh v rv => hk W0 H0 W1 H1 S1 ρ own v d (ev.mono l w s) rv hh⟩
theorem di_rng1 {p pos : Pos} (hm : X.mg "range" = none) (ha : DE X cl E e fa) (hg : Gl X "range" := by rfl) (hs : starEach [e] X.env = [(false, eval e X.env)] := by rfl) : DI X cl E tg (.Call (.Name "range" p) [e] [] pos) (cRng1 fa) := by
  refine pi_imp (pi_range1 hg hm (pa_cons ha pa_nil hs) hs) fun σ H R h => ?_
  refine tI_bind h fun W0 H0 W1 H1 S1 ρ own v d ev rv hh => ?_
  cases d with
  | int j =>
    cases rv
    obtain ⟨c, hh⟩ := po_if hh
    exact ⟨j, rfl, c.1, c.2, Po.now ev.wk ev.st hh _ (Wk.rng 0 _)⟩
  | _ => exact (po_bad hh).elim
theorem di_rng2 {e2 : Expr} {p pos : Pos} (hm : X.mg "range" = none) (ha : DE X cl E e fa) (hb : DE X cl E e2 fb) (hg : Gl X "range" := by rfl) (hs : starEach [e, e2] X.env = [(false, eval e X.env), (false, eval e2 X.env)] := by rfl) (hs2 : starEach [e2] X.env = [(false, eval e2 X.env)] := by rfl) :
    DI X cl E tg (.Call (.Name "range" p) [e, e2] [] pos) (cRng2 fa fb) := by
  refine pi_imp (pi_range2 hg hm (pa_cons ha (pa_cons hb pa_nil hs2) (by rw [hs, hs2])) hs hs2) fun σ H R h => ?_
  refine tI_bind h fun W0 H0 W1 H1 S1 ρ own v d ev rv hh => ?_
  refine ⟨W0, H0, W1, S1, ρ, own, ev, (Po.bind ev.wk hh).imp fun d2 S2 W2 H2 l w s h2 v2 rv2 => ?_⟩
  cases d with
  | int i =>
    cases d2 with
    | int j =>
      cases rv; cases rv2
      obtain ⟨c, h2⟩ := po_if h2
      exact ⟨i, j, rfl, c, Po.now w s h2 _ (Wk.rng i _)⟩
    | _ => exact (po_bad h2).elim
  | _ => exact (po_bad h2).elim
/-! zip, enumerate -/
def zipD : List D → List D → List D
  | x :: xs, y :: ys => .tup [x, y] :: zipD xs ys
  | _, _ => []
def enumD (k : Nat) : List D → List D
  | [] => []
  | x :: xs => .tup [.int (k : Nat), x] :: enumD (k + 1) xs
theorem zipD_get : ∀ {xs ys : List D} {i : Nat} {d : D}, (zipD xs ys)[i]? = some d → ∃ x y, xs[i]? = some x ∧ ys[i]? = some y ∧ d = .tup [x, y]
  | [], _, _, _, h => by simp [zipD] at h
  | _ :: _, [], _, _, h => by simp [zipD] at h
  | x :: xs, y :: ys, 0, d, h => by simp [zipD] at h; exact ⟨x, y, rfl, rfl, h.symm⟩
  | x :: xs, y :: ys, i + 1, d, h => by
    obtain ⟨a, b, h1, h2, h3⟩ := zipD_get (xs := xs) (ys := ys) (i := i) (d := d) (by simpa [zipD] using h)
    exact ⟨a, b, by simpa using h1, by simpa using h2, h3⟩
theorem zipD_len : ∀ (xs ys : List D), (zipD xs ys).length = min xs.length ys.length
  | [], ys => by simp [zipD]
  | _ :: _, [] => by simp [zipD]
  | x :: xs, y :: ys => by simp only [zipD, List.length_cons, zipD_len xs ys]; omega
theorem enumD_get : ∀ {xs : List D} {k i : Nat} {d : D}, (enumD k xs)[i]? = some d → ∃ x, xs[i]? = some x ∧ d = .tup [.int ((k + i : Nat) : Int), x]
  | [], _, _, _, h => by simp [enumD] at h
  | x :: xs, k, 0, d, h => by simp [enumD] at h; exact ⟨x, rfl, h.symm⟩
  | x :: xs, k, i + 1, d, h => by
    obtain ⟨a, h1, h2⟩ := enumD_get (xs := xs) (k := k + 1) (i := i) (d := d) (by simpa [enumD] using h)
    exact ⟨a, by simpa using h1, by rw [h2, show k + 1 + i = k + (i + 1) by omega]⟩
theorem enumD_len : ∀ (xs : List D) (k : Nat), (enumD k xs).length = xs.length
  | [], _ => rfl
  | _ :: xs, k => by simp only [enumD, List.length_cons, enumD_len xs (k + 1)]
theorem new_pair {G : Gx} {W : Wd} {H : Hp} {T : Addr} {x y : V} {a b : D} (w : WOk W H) (hT : H T = none) (ra : Rp G W H x a) (rb : Rp G W H y b) : Same H (upd H T (.tup [x, y])) ∧ Rp G W (upd H T (.tup [x, y])) (.ref T) (.tup [a, b]) :=
  ⟨Same.new hT, Rp.newTup w hT (.cons ra (.cons rb .nil))⟩
theorem Wk.zipL {G : Gx} {W : Wd} {H : Hp} {a b : Addr} {vs us : List V} {ds es : List D} (sq : ∀ W1 H1, Lw W H W1 H1 → SqL G.K H1 a vs) (sr : ∀ W1 H1, Lw W H W1 H1 → SqL G.K H1 b us) (r : RpA G W H vs ds) (q : RpA G W H us es) : Wk G (Itz G.K a b) (zipD ds es) W H := by
  refine ⟨fun W1 H1 l w i d hi => ?_, fun W1 H1 l i hi => ?_⟩
  · obtain ⟨x, y, h1, h2, e⟩ := zipD_get hi
    subst e
    obtain ⟨v, e1, rv⟩ := r.get h1
    obtain ⟨u, e2, ru⟩ := q.get h2
    refine ⟨⟨vs, us, v, u, sq W1 H1 l, sr W1 H1 l, e1, e2⟩, fun z H2 ⟨T, v', u', ez, hT, eH, hv, hu⟩ => ?_⟩
    subst ez eH
    have e3 := yl hv (sq W1 _ l) e1
    have e4 := yl hu (sr W1 _ l) e2
    subst e3 e4
    exact new_pair w hT (rv.mono l) (ru.mono l)
  · rw [zipD_len] at hi
    refine ⟨vs, us, sq W1 H1 l, sr W1 H1 l, ?_⟩
    rw [r.length, q.length]
    omega
theorem Wk.zipT {G : Gx} {W : Wd} {H : Hp} {a b : Addr} {vs us : List V} {ds es : List D} (sq : ∀ W1 H1, Lw W H W1 H1 → SqT G.K H1 a vs) (sr : ∀ W1 H1, Lw W H W1 H1 → SqT G.K H1 b us) (r : RpA G W H vs ds) (q : RpA G W H us es) : Wk G (RZ.ItzT G.K a b) (zipD ds es) W H := by
  refine ⟨fun W1 H1 l w i d hi => ?_, fun W1 H1 l i hi => ?_⟩
  · obtain ⟨x, y, h1, h2, e⟩ := zipD_get hi
    subst e
    obtain ⟨v, e1, rv⟩ := r.get h1
    obtain ⟨u, e2, ru⟩ := q.get h2
    refine ⟨⟨vs, us, v, u, sq W1 H1 l, sr W1 H1 l, e1, e2⟩, fun z H2 ⟨T, v', u', ez, hT, eH, hv, hu⟩ => ?_⟩
    subst ez eH
    have e3 := ylT hv (sq W1 _ l) e1
    have e4 := ylT hu (sr W1 _ l) e2
    subst e3 e4
    exact new_pair w hT (rv.mono l) (ru.mono l)
  · rw [zipD_len] at hi
    refine ⟨vs, us, sq W1 H1 l, sr W1 H1 l, ?_⟩
    rw [r.length, q.length]
    omega
theorem Wk.enumL {G : Gx} {W : Wd} {H : Hp} {a : Addr} {vs : List V} {ds : List D} (sq : ∀ W1 H1, Lw W H W1 H1 → SqL G.K H1 a vs) (r : RpA G W H vs ds) : Wk G (Ite G.K a) (enumD 0 ds) W H := by
  refine ⟨fun W1 H1 l w i d hi => ?_, fun W1 H1 l i hi => ⟨vs, sq W1 H1 l, by rw [enumD_len] at hi; rw [r.length]; exact hi⟩⟩
  obtain ⟨x, h1, e⟩ := enumD_get hi
  subst e
  obtain ⟨v, e1, rv⟩ := r.get h1
  refine ⟨⟨vs, v, sq W1 H1 l, e1⟩, fun z H2 ⟨T, v', ez, hT, eH, hv⟩ => ?_⟩
  subst ez eH
  have e3 := yl hv (sq W1 _ l) e1
  subst e3
  rw [Nat.zero_add]
  exact new_pair w hT (.int _) (rv.mono l)
def gZip : D → D → M (List D)
  | .lst xs, .lst ys => M.pure (zipD xs ys)
  | .tup xs, .tup ys => M.pure (zipD xs ys)
  | _, _ => M.bad
def cZip (fa fb : Env → M D) : Env → M (List D) := fun ρ => do let x ← fa ρ; let y ← fb ρ; gZip x y
theorem di_zip {e2 : Expr} {elts : List Expr} {kk : Nat} {p pos tpos : Pos} (hm : X.mg "zip" = none) (ha : DE X cl E e fa) (hb : DE X cl E e2 fb) (hg : Gl X "zip" := by rfl) (hs : starEach [e, e2] X.env = (false, eval e X.env) :: starEach [e2] X.env := by rfl) (hs2 : starEach [e2] X.env = (false, eval e2 X.env) :: starEach [] X.env := by rfl) (hpl : (backTo pos (starEach [e2] X.env)).any (·.1) = false := by rfl) :
    DI X cl E (.Tuple elts kk tpos) (.Call (.Name "zip" p) [e, e2] [] pos) (cZip fa fb) := by
  refine pi_imp (RZ.pi_zipA hg hm (pa_cons ha (pa_cons hb pa_nil hs2) hs) hs hpl) fun σ H R h => ?_
  refine tI_bind h fun W0 H0 W1 H1 S1 ρ own v d ev rv hh => ?_
  refine ⟨W0, H0, W1, S1, ρ, own, ev, (Po.bind ev.wk hh).imp fun d2 S2 W2 H2 l w s h2 v2 rv2 => ?_⟩
  have rv1 := rv.mono (l.lw ev.wk)
  cases d with
  | lst xs =>
    cases d2 with
    | lst ys =>
      cases rv1 with
      | @lst a vs _ h1 nb r1 =>
        cases rv2 with
        | @lst b us _ h3 nb2 r2 =>
          exact ⟨a, b, vs, us, rfl, .inl ⟨SqL.of h1, SqL.of h3, Po.now w s h2 _ (Wk.zipL (G := ⟨X.K, cl⟩) (fun _ _ k => SqL.of (k.kp _ _ h1 nb)) (fun _ _ k => SqL.of (k.kp _ _ h3 nb2)) r1 r2)⟩⟩
    | _ => exact (po_bad h2).elim
  | tup xs =>
    cases d2 with
    | tup ys =>
      cases rv1 with
      | @tup a vs _ h1 r1 =>
        cases rv2 with
        | @tup b us _ h3 r2 =>
          exact ⟨a, b, vs, us, rfl, .inr ⟨h1.sq, h3.sq, Po.now w s h2 _ (Wk.zipT (G := ⟨X.K, cl⟩) (fun _ _ k => (h1.mono k).sq) (fun _ _ k => (h3.mono k).sq) r1 r2)⟩⟩
    | _ => exact (po_bad h2).elim
  | _ => exact (po_bad h2).elim
def gEnum : D → M (List D)
  | .lst xs => M.pure (enumD 0 xs)
  | _ => M.bad
def cEnum (fa : Env → M D) : Env → M (List D) := fun ρ => do let x ← fa ρ; gEnum x
theorem di_enum {elts : List Expr} {kk : Nat} {p pos tpos : Pos} (hm : X.mg "enumerate" = none) (ha : DE X cl E e fa) (hg : Gl X "enumerate" := by rfl) (hs : starEach [e] X.env = [(false, eval e X.env)] := by rfl) :
    DI X cl E (.Tuple elts kk tpos) (.Call (.Name "enumerate" p) [e] [] pos) (cEnum fa) := by
  refine pi_imp (pi_enum hg hm (pa_cons ha pa_nil hs) hs) fun σ H R h => ?_
  refine tI_bind h fun W0 H0 W1 H1 S1 ρ own v d ev rv hh => ?_
  cases d with
  | lst xs =>
    cases rv with
    | @lst a vs _ h1 nb r1 => exact ⟨a, vs, rfl, SqL.of h1, Po.now ev.wk ev.st hh _ (Wk.enumL (G := ⟨X.K, cl⟩) (fun _ _ k => SqL.of (k.kp _ _ h1 nb)) r1)⟩
  | _ => exact (po_bad hh).elim
end

/-! ### targets -/
abbrev Bd := D → Env → Option Env
def bName (i : Nat) : Bd := fun d ρ => some (ρ.set i (.val d))
def bAll : List Bd → List D → Env → Option Env
  | [], [], ρ => some ρ
  | b :: bs, x :: xs, ρ => match b x ρ with
    | some ρ' => bAll bs xs ρ'
    | none => none
  | _, _, _ => none
def bTup (bs : List Bd) : Bd := fun d ρ => match d with
  | .tup xs => bAll bs xs ρ
  | .lst xs => bAll bs xs ρ
  | _ => none
theorem Ev.set {G : Gx} {W0 W : Wd} {H0 H : Hp} {S : Store} {σ : L2.St} {ρ : Env} {own : Nat → Option Addr} {i : Nat} {v : V} {d : D} (e : Ev G W0 H0 W H S σ ρ own) (r : Rp G W H v d) :
    Ev G W0 H0 W H S (σ.set i (some v)) (ρ.set i (.val d)) (fun j => if j = i then none else own j) := by
  refine ⟨e.w0, e.wk, e.le, e.st, by simp [e.len], fun j d' h => ?_, fun j ds h => ?_, fun j a h => ?_, fun j k a h1 h2 => ?_⟩
  · by_cases hj : j = i
    · subst hj
      have hl : j < ρ.length := by
        have := (List.getElem?_eq_some_iff.mp h).1
        simpa using this
      rw [List.getElem?_set_self hl] at h
      cases h
      exact ⟨v, List.getElem?_set_self (by rw [e.len]; exact hl), r⟩
    · rw [List.getElem?_set_ne (Ne.symm hj)] at h
      obtain ⟨u, h1, h2⟩ := e.sl j d' h
      exact ⟨u, by rw [List.getElem?_set_ne (Ne.symm hj)]; exact h1, h2⟩
  · by_cases hj : j = i
    · subst hj
      have hl : j < ρ.length := by
        have := (List.getElem?_eq_some_iff.mp h).1
        simpa using this
      rw [List.getElem?_set_self hl] at h
      cases h
    · rw [List.getElem?_set_ne (Ne.symm hj)] at h
      obtain ⟨a, vs, h1, h2, h3, h4⟩ := e.so j ds h
      exact ⟨a, vs, by show (if j = i then none else own j) = some a; rw [if_neg hj]; exact h1, by rw [List.getElem?_set_ne (Ne.symm hj)]; exact h2, h3, h4⟩
  · have h : (if j = i then none else own j) = some a := h
    by_cases hj : j = i
    · rw [if_pos hj] at h; cases h
    · rw [if_neg hj] at h; exact e.oB j a h
  · have h1 : (if j = i then none else own j) = some a := h1
    have h2 : (if k = i then none else own k) = some a := h2
    by_cases hj : j = i
    · rw [if_pos hj] at h1; cases h1
    · by_cases hk : k = i
      · rw [if_pos hk] at h2; cases h2
      · rw [if_neg hj] at h1; rw [if_neg hk] at h2; exact e.oi j k a h1 h2
/-- the slots but those of ws are as they were -/
def Out (ws : List Nat) (σ σ' : L2.St) : Prop := σ'.length = σ.length ∧ ∀ i, i ∉ ws → σ'[i]? = σ[i]?
theorem Out.refl (ws : List Nat) (σ : L2.St) : Out ws σ σ := ⟨rfl, fun _ _ => rfl⟩
theorem Out.trans {ws us : List Nat} {σ σ1 σ2 : L2.St} (a : Out ws σ σ1) (b : Out us σ1 σ2) : Out (ws ++ us) σ σ2 :=
  ⟨b.1.trans a.1, fun i h => by rw [List.mem_append, not_or] at h; rw [b.2 i h.2, a.2 i h.1]⟩
theorem Out.one {σ : L2.St} {i : Nat} {v : Option V} : Out [i] σ (σ.set i v) := ⟨List.length_set, fun j h => List.getElem?_set_ne (fun e => h (by rw [e]; exact List.mem_singleton_self _))⟩
def tG (G : Gx) (b : Bd) (ws : List Nat) : TG := fun v σ H Q => ∃ W0 H0 W S ρ own d ρ', Ev G W0 H0 W H S σ ρ own ∧ Rp G W H v d ∧ b d ρ = some ρ' ∧ ∀ σ' own', Out ws σ σ' → Ev G W0 H0 W H S σ' ρ' own' → Q σ' H
def tGs (G : Gx) (bs : List Bd) (ws : List Nat) : TGs := fun vs σ H Q => ∃ W0 H0 W S ρ own ds ρ', Ev G W0 H0 W H S σ ρ own ∧ RpA G W H vs ds ∧ bAll bs ds ρ = some ρ' ∧ ∀ σ' own', Out ws σ σ' → Ev G W0 H0 W H S σ' ρ' own' → Q σ' H
abbrev DG (X : Cx) (cl : Cls_) (e : Expr) (b : Bd) (ws : List Nat) : Prop := PG X e (tG ⟨X.K, cl⟩ b ws)
abbrev DGs (X : Cx) (cl : Cls_) (es : List Expr) (bs : List Bd) (ws : List Nat) : Prop := PGs X es (tGs ⟨X.K, cl⟩ bs ws)
theorem pg_imp {X : Cx} {e : Expr} {t t' : TG} (h : PG X e t) (i : ∀ v σ H Q, t' v σ H Q → t v σ H Q) : PG X e t' := ⟨fun pins s σ H v u Q I r q => h.run pins s σ H v u Q I r (i v σ H Q q)⟩
theorem pgs_imp {X : Cx} {e : List Expr} {t t' : TGs} (h : PGs X e t) (i : ∀ v σ H Q, t' v σ H Q → t v σ H Q) : PGs X e t' := ⟨fun pins s σ H v u Q I r q => h.run pins s σ H v u Q I r (i v σ H Q q)⟩
section
variable {X : Cx} {cl : Cls_} {pos : Pos}
theorem dg_name {i : Nat} {x : Str} (hN : X.N.Nodup) (hi : X.N[i]? = some x := by rfl) (hx : Loc X.env.scope x := by first | exact Or.inl rfl | exact Or.inr rfl) (hf : X.fn x = true ∨ X.env.scope.names.lookup x = some .local := by first | exact .inl rfl | exact .inr rfl) : DG X cl (.Name x pos) (bName i) [i] :=
  pg_imp (pg_name hN hi hx hf) fun v σ H Q ⟨W0, H0, W, S, ρ, own, d, ρ', ev, r, e, h⟩ => by cases e; exact h _ _ Out.one (ev.set r)
theorem dgs_nil : DGs X cl [] [] [] := pgs_imp pgs_nil fun vs σ H Q ⟨W0, H0, W, S, ρ, own, ds, ρ', ev, r, e, h⟩ => by
  cases r with
  | nil => cases e; exact ⟨rfl, h _ _ (Out.refl _ _) ev⟩
  | cons _ _ => cases e
theorem dgs_cons {e : Expr} {es : List Expr} {b : Bd} {bs : List Bd} {ws us : List Nat} (h1 : DG X cl e b ws) (h2 : DGs X cl es bs us) (hs : (assignEach (e :: es) X.env).map (·.2) = assign e X.env :: (assignEach es X.env).map (·.2) := by rfl) : DGs X cl (e :: es) (b :: bs) (ws ++ us) := by
  refine pgs_imp (pgs_cons h1 h2 hs) fun vs σ H Q ⟨W0, H0, W, S, ρ, own, ds, ρ', ev, r, e, h⟩ => ?_
  cases r with
  | nil => cases e
  | @cons v vs d ds rv rvs =>
    refine ⟨v, vs, rfl, ?_⟩
    unfold bAll at e
    cases q : b d ρ with
    | none => rw [q] at e; cases e
    | some ρ1 =>
      rw [q] at e
      exact ⟨W0, H0, W, S, ρ, own, d, ρ1, ev, rv, q, fun σ1 own1 o1 ev1 => ⟨W0, H0, W, S, ρ1, own1, ds, ρ', ev1, rvs, e, fun σ2 own2 o2 ev2 => h σ2 own2 (o1.trans o2) ev2⟩⟩
theorem bAll_len : ∀ {bs : List Bd} {ds : List D} {ρ ρ' : Env}, bAll bs ds ρ = some ρ' → ds.length = bs.length
  | [], [], _, _, _ => rfl
  | b :: bs, x :: xs, ρ, ρ', h => by
    unfold bAll at h
    cases q : b x ρ with
    | none => rw [q] at h; cases h
    | some ρ1 =>
      rw [q] at h
      rw [List.length_cons, List.length_cons, bAll_len h]
  | [], _ :: _, _, _, h => by simp [bAll] at h
  | _ :: _, [], _, _, h => by simp [bAll] at h
theorem pg_or {e : Expr} {t u : TG} (h1 : PG X e t) (h2 : PG X e u) : PG X e (fun v σ H Q => t v σ H Q ∨ u v σ H Q) := ⟨fun pins s σ H v w Q I r q => q.elim (h1.run pins s σ H v w Q I r) (h2.run pins s σ H v w Q I r)⟩
theorem dg_tup {es : List Expr} {k : Nat} {bs : List Bd} {ws : List Nat} (hc : X.calm = true) (h : DGs X cl es bs ws) (hn : (assignEach es X.env).length = bs.length := by rfl) (hst : (assignEach es X.env).findIdx? (·.1) = none := by rfl) : DG X cl (.Tuple es k pos) (bTup bs) ws := by
  refine pg_imp (pg_or (pg_tup (n := bs.length) hc h hn hst) (pg_lst (n := bs.length) hc h hn hst)) fun v σ H Q ⟨W0, H0, W, S, ρ, own, d, ρ', ev, r, e, h⟩ => ?_
  cases d with
  | tup xs =>
    cases r with
    | @tup a vs _ ha ra => exact .inl ⟨a, vs, rfl, ha.sq, by rw [ra.length]; exact bAll_len e, W0, H0, W, S, ρ, own, xs, ρ', ev, ra, e, h⟩
  | lst xs =>
    cases r with
    | @lst a vs _ ha _ ra => exact .inr ⟨a, vs, rfl, .inl (.inl ha), by rw [ra.length]; exact bAll_len e, W0, H0, W, S, ρ, own, xs, ρ', ev, ra, e, h⟩
  | _ => cases e
end
end DN
/-! DN5: comprehensions, statements, defs. -/
namespace DN
open PySem PySem.Spec PyProof.Rows L2

/-! ### comprehensions -/
abbrev E0_ : WX := fun _ _ _ _ => False
def noX {α : Type} (m : M α) : M α := fun S => match m S with
  | .exc _ _ _ => .bad
  | r => r
theorem po_noX {G : Gx} {E : WX} {σ σ' : L2.St} {W : Wd} {H : Hp} {α : Type} {m : M α} {S : Store} {R : α → Store → Wd → Hp → Prop} (h : Po G E σ W H (noX m S) R) : Po G E0_ σ' W H (m S) R := by
  unfold noX at h
  cases q : m S with
  | ok a S' => rw [q] at h; exact h
  | exc c fs S' => rw [q] at h; exact h.elim
  | bad => rw [q] at h; exact h
def wipeE (ρ : Env) : List Nat → Env
  | [] => ρ
  | i :: is => (wipeE ρ is).set i .un
def compL (b : Bd) (t : Env → M Bool) (f : Env → M D) (ρ : Env) : List D → M (List D)
  | [] => M.pure []
  | d :: ds => match b d ρ with
    | none => M.bad
    | some ρ' => do
      let k ← t ρ'
      if k then (do
        let y ← f ρ'
        let ys ← compL b t f ρ ds
        M.pure (y :: ys))
      else compL b t f ρ ds
def cComp (fi : Env → M (List D)) (b : Bd) (t : Env → M Bool) (f : Env → M D) (vs : List Nat) : Env → M D := fun ρ => do
  let ds ← fi ρ
  if ds.length ≤ 16777216 then (do
    let ys ← noX (compL b t f (wipeE ρ vs) ds)
    M.pure (.lst ys))
  else M.bad
def cYes : Env → M Bool := fun _ => M.pure true
theorem Ev.unset {G : Gx} {W0 W : Wd} {H0 H : Hp} {S : Store} {σ : L2.St} {ρ : Env} {own : Nat → Option Addr} {i : Nat} (e : Ev G W0 H0 W H S σ ρ own) :
    Ev G W0 H0 W H S (σ.set i none) (ρ.set i .un) (fun j => if j = i then none else own j) := by
  have at_ : ∀ {j : Nat} {x : Sl}, (ρ.set i .un)[j]? = some x → x ≠ .un → j ≠ i ∧ ρ[j]? = some x := fun {j x} h hx => by
    by_cases hj : j = i
    · subst hj
      have hl : j < ρ.length := by
        have := (List.getElem?_eq_some_iff.mp h).1
        simpa using this
      rw [List.getElem?_set_self hl] at h
      cases h; exact absurd rfl hx
    · rw [List.getElem?_set_ne (Ne.symm hj)] at h
      exact ⟨hj, h⟩
  refine ⟨e.w0, e.wk, e.le, e.st, by simp [e.len], fun j d h => ?_, fun j ds h => ?_, fun j a h => ?_, fun j k a h1 h2 => ?_⟩
  · obtain ⟨hj, h⟩ := at_ h (by intro q; cases q)
    obtain ⟨v, h1, h2⟩ := e.sl j d h
    exact ⟨v, by rw [List.getElem?_set_ne (Ne.symm hj)]; exact h1, h2⟩
  · obtain ⟨hj, h⟩ := at_ h (by intro q; cases q)
    obtain ⟨a, vs, h1, h2, h3, h4⟩ := e.so j ds h
    exact ⟨a, vs, by show (if j = i then none else own j) = some a; rw [if_neg hj]; exact h1, by rw [List.getElem?_set_ne (Ne.symm hj)]; exact h2, h3, h4⟩
  · have h : (if j = i then none else own j) = some a := h
    by_cases hj : j = i
    · rw [if_pos hj] at h; cases h
    · rw [if_neg hj] at h; exact e.oB j a h
  · have h1 : (if j = i then none else own j) = some a := h1
    have h2 : (if k = i then none else own k) = some a := h2
    by_cases hj : j = i
    · rw [if_pos hj] at h1; cases h1
    · by_cases hk : k = i
      · rw [if_pos hk] at h2; cases h2
      · rw [if_neg hj] at h1; rw [if_neg hk] at h2; exact e.oi j k a h1 h2
theorem Ev.wiped {G : Gx} {W0 W : Wd} {H0 H : Hp} {S : Store} {σ : L2.St} {ρ : Env} {own : Nat → Option Addr} (e : Ev G W0 H0 W H S σ ρ own) : ∀ vs : List Nat, ∃ own', Ev G W0 H0 W H S (wipe σ vs) (wipeE ρ vs) own'
  | [] => ⟨own, e⟩
  | i :: is => let ⟨o, e'⟩ := e.wiped is; ⟨_, e'.unset⟩
theorem wipe_same {σ σ' : L2.St} {ws vs : List Nat} (o : Out ws σ σ') (h : ∀ i ∈ ws, i ∈ vs) : wipe σ' vs = wipe σ vs := by
  refine List.ext_getElem? fun i => ?_
  have key : ∀ (τ : L2.St) (us : List Nat), i ∈ us → (wipe τ us)[i]? = if i < τ.length then some none else none := fun τ us => by
    induction us with
    | nil => intro h; cases h
    | cons u us ih =>
      intro h
      show ((wipe τ us).set u none)[i]? = _
      by_cases e : u = i
      · subst e
        by_cases hl : u < τ.length
        · rw [if_pos hl, List.getElem?_set_self (by rw [wipe_length]; exact hl)]
        · rw [if_neg hl]
          exact List.getElem?_eq_none (by rw [List.length_set, wipe_length]; omega)
      · rw [List.getElem?_set_ne e]
        rcases List.mem_cons.mp h with z | z
        · exact absurd z.symm e
        · exact ih z
  by_cases hi : i ∈ vs
  · rw [key σ' vs hi, key σ vs hi, o.1]
  · rw [wipe_out hi, wipe_out hi]
    exact o.2 i fun z => hi (h i z)
/-- an object of one's own is changed -/
theorem Ev.poke {G : Gx} {W0 W : Wd} {H0 H : Hp} {S : Store} {σ : L2.St} {ρ : Env} {own : Nat → Option Addr} {p : Addr} {o : HO} (e : Ev G W0 H0 W H S σ ρ own) {xs : List V} (hH : H p = some (.lst xs)) (hB : W.B p) (h0 : Nw H0 p) (hn : ∀ n, W.phi n ≠ some p) (ho : ∀ i, own i ≠ some p) (t : nt o := by intro _ z; cases z) :
    Ev G W0 H0 W (upd H p o) S σ ρ own := by
  have lw : Lw W H W (upd H p o) := ⟨fun _ _ h => h, fun _ h => .inl h, fun b u h _ nb => by rw [upd_ne (fun z => nb (by rw [z]; exact hB))]; exact h⟩
  refine ⟨e.w0, ⟨fun a h => ?_, e.wk.rg, e.wk.ij⟩, ⟨e.le.ph, e.le.ps, e.le.Bm, e.le.Bn, fun b u h tu => ?_⟩, ⟨fun n c h => ?_, e.st.top, Tabs.put e.st.tb hH (by intro _ z; cases z) code_lst⟩, e.len, fun i d h => ?_, fun i ds h => ?_, e.oB, e.oi⟩
  · by_cases z : a = p
    · exact ⟨o, by rw [z, upd_same], t⟩
    · obtain ⟨u, q, tu⟩ := e.wk.tr a h
      exact ⟨u, by rw [upd_ne z]; exact q, tu⟩
  · rcases e.le.kp b u h tu with z | z
    · exact .inl z
    · refine .inr ?_
      rw [upd_ne (fun q => by rw [q] at h; exact h0.no h tu)]
      exact z
  · obtain ⟨a, h1, h2⟩ := e.st.at_ n c h
    exact ⟨a, h1, h2.same lw fun u q => by rw [upd_ne (fun z => hn n (by rw [← z]; exact h1))]; exact q⟩
  · obtain ⟨v, h1, h2⟩ := e.sl i d h
    exact ⟨v, h1, h2.mono lw⟩
  · obtain ⟨a, vs, h1, h2, h3, h4⟩ := e.so i ds h
    exact ⟨a, vs, h1, h2, by rw [upd_ne (fun z => ho i (by rw [← z]; exact h1))]; exact h3, h4.mono lw⟩
/-- a new object is busy from now on -/
def Wd.add (W : Wd) (p : Addr) : Wd := ⟨W.phi, fun a => W.B a ∨ a = p⟩
def Wd.del (W : Wd) (p : Addr) : Wd := ⟨W.phi, fun a => W.B a ∧ a ≠ p⟩
theorem le_add {W : Wd} {H : Hp} {p : Addr} {o : HO} (hp : H p = none) : Le W H (W.add p) (upd H p o) :=
  ⟨fun _ _ h => h, fun _ _ h => .inl h, fun _ h => .inl h, fun a h => h.elim .inl fun z => .inr (by rw [z]; exact .of hp), fun b u h _ => .inr (Same.new hp b u h)⟩
theorem ok_add {W : Wd} {H : Hp} {p : Addr} {o : HO} (w : WOk W H) (hp : H p = none) (t : nt o := by intro _ z; cases z) : WOk (W.add p) (upd H p o) := by
  refine ⟨fun a h => ?_, fun n a h => .inl (w.rg n a h), w.ij⟩
  rcases h with h | h
  · obtain ⟨u, q, tu⟩ := w.tr a h
    exact ⟨u, Same.new hp a u q, tu⟩
  · exact ⟨o, by rw [h, upd_same], t⟩
theorem st_add {G : Gx} {W : Wd} {H : Hp} {S : Store} {p : Addr} {o : HO} (w : WOk W H) (s : StOk G W H S) (hp : H p = none) : StOk G (W.add p) (upd H p o) S :=
  ⟨fun n c h => let ⟨a, h1, h2⟩ := s.at_ n c h; ⟨a, h1, h2.same ((le_add hp).lw w) fun u q => Same.new hp a u q⟩, s.top, s.tb.ext (Same.new hp)⟩
section
variable {X : Cx} {cl : Cls_} {E : WX}
theorem compL_ok {b : Bd} {t : Env → M Bool} {f : Env → M D} {ρ : Env} {d : D} {ds : List D} {S S2 : Store} {ys : List D} (h : compL b t f ρ (d :: ds) S = .ok ys S2) :
    ∃ ρ' k Sk, b d ρ = some ρ' ∧ t ρ' S = .ok k Sk ∧ (k = true → ∃ y Sy zs, f ρ' Sk = .ok y Sy ∧ compL b t f ρ ds Sy = .ok zs S2 ∧ ys = y :: zs) ∧ (k = false → compL b t f ρ ds Sk = .ok ys S2) := by
  unfold compL at h
  cases q : b d ρ with
  | none => rw [q] at h; cases h
  | some ρ' =>
    rw [q] at h
    dsimp only at h
    rw [bind_run] at h
    cases q2 : t ρ' S with
    | bad => rw [q2] at h; cases h
    | exc c fs S' => rw [q2] at h; cases h
    | ok k Sk =>
      rw [q2] at h
      dsimp only at h
      refine ⟨ρ', k, Sk, rfl, q2, fun e => ?_, fun e => ?_⟩
      · subst e
        rw [if_pos rfl, bind_run] at h
        cases q3 : f ρ' Sk with
        | bad => rw [q3] at h; cases h
        | exc c fs S' => rw [q3] at h; cases h
        | ok y Sy =>
          rw [q3] at h
          dsimp only at h
          rw [bind_run] at h
          cases q4 : compL b t f ρ ds Sy with
          | bad => rw [q4] at h; cases h
          | exc c fs S' => rw [q4] at h; cases h
          | ok zs Sz =>
            rw [q4] at h
            have h : Res.ok (y :: zs) Sz = Res.ok ys S2 := h
            injection h with h1 h2
            subst h1 h2
            exact ⟨y, Sy, zs, rfl, q4, rfl⟩
      · subst e
        rw [if_neg Bool.false_ne_true] at h
        exact h
theorem tLc_of {G : Gx} {fi : Env → M (List D)} {b : Bd} {t : Env → M Bool} {f : Env → M D} {vs ws : List Nat} {σ : L2.St} {H : Hp} {Q : VK} (hw : ∀ i ∈ ws, i ∈ vs) (h : tE G E (cComp fi b t f vs) σ H Q) :
    tLc (tI G E fi) (tG G b ws) (tB_ G E0_ t) (tE G E0_ f) vs σ H Q := by
  obtain ⟨W0, H0, W, S, ρ, own, ev, h⟩ := h
  refine ⟨W0, H0, W, S, ρ, own, ev, (Po.bind ev.wk h).imp fun ds S1 W1 H1 l1 w1 s1 h1 J hJ p hp => ?_⟩
  obtain ⟨hz, h1⟩ := po_if h1
  have h1 := Po.bind w1 h1
  unfold noX at h1
  obtain ⟨own1, ev1⟩ := (ev.mono l1 w1 s1).wiped vs
  have nD : ∀ i, own1 i ≠ some p := fun i q => by
    obtain ⟨z, _⟩ := ev1.oB i p q
    exact w1.free hp z
  have z0 : Nw H0 p := fun o q t => by
    rcases ev1.le.kp p o q t with ⟨n, y⟩ | y
    · exact absurd (w1.rg n p (ev1.le.ph n p y)) (w1.free hp)
    · rw [hp] at y; cases y
  cases qr : compL b t f (wipeE ρ vs) ds S1 with
  | bad => rw [qr] at h1; exact h1.elim
  | exc c fs S' => rw [qr] at h1; exact h1.elim
  | ok ys S2 =>
    rw [qr] at h1
    have fin : ∀ W3 H3, Le W1 H1 W3 H3 → WOk W3 H3 → StOk G W3 H3 S2 → ∀ v, Rp G W3 H3 v (.lst ys) → Q v H3 := fun W3 H3 l w s v r => Po.now w s (h1 W3 H3 l w s) v r
    -- the invariant
    refine ⟨fun i m H' => m = ds.length - i ∧ i ≤ ds.length ∧ ∃ (Wc : Wd) (Sc : Store) (av : List V) (ad zs : List D), Ev G W0 H0 Wc H' Sc (wipe σ vs) (wipeE ρ vs) own1 ∧ Le W1 H1 Wc H' ∧ Wc.B p ∧ (∀ n, Wc.phi n ≠ some p) ∧
      H' p = some (.lst av) ∧ RpA G Wc H' av ad ∧ ad.length ≤ i ∧ compL b t f (wipeE ρ vs) (ds.drop i) Sc = .ok zs S2 ∧ ys = ad ++ zs, ?_, ?_⟩
    · exact ⟨ds.length, by simp, Nat.zero_le _, W1.add p, S1, [], [], ys, ev1.mono (le_add hp) (ok_add w1 hp) (st_add w1 s1 hp), le_add hp, .inr rfl, fun n q => w1.free hp (w1.rg n p q), upd_same, .nil, Nat.le_refl _, qr, rfl⟩
    · rintro i m H' ⟨rfl, hi, Wc, Sc, av, ad, zs, ec, lc, Bp, np, hL, ra, hlen, hr, hy⟩
      by_cases hlt : i < ds.length
      · obtain ⟨d, hd⟩ : ∃ d, ds[i]? = some d := ⟨ds[i], by simp [hlt]⟩
        have hdr : ds.drop i = d :: ds.drop (i + 1) := by
          rw [List.drop_eq_getElem_cons hlt]
          have : ds[i] = d := by simpa [hlt] using hd
          rw [this]
        rw [hdr] at hr
        obtain ⟨ρ', k, Sk, hb, ht, hk1, hk0⟩ := compL_ok hr
        obtain ⟨go, yl⟩ := hJ.go Wc H' (lc.lw w1) ec.wk i d hd
        refine .inr ⟨go, _, fun H2 h2 => ⟨ds.length - (i + 1), by omega, h2⟩, fun x H2 y2 => ?_⟩
        obtain ⟨sm, rx⟩ := yl x H2 y2
        have e2 := ec.same sm
        have lc2 : Le W1 H1 Wc H2 := lc.trans (Le.same sm) w1 e2.wk
        refine ⟨W0, H0, Wc, Sc, _, own1, d, ρ', e2, rx, hb, fun σ3 own3 o3 e3 => ?_⟩
        refine ⟨?_, W0, H0, Wc, Sc, ρ', own3, e3, ?_⟩
        · rw [wipe_same o3 hw, wipe_same (ws := vs) ⟨wipe_length σ vs, fun j hj => wipe_out hj⟩ fun _ h => h]
        · rw [ht]
          intro W3 H3 l3 w3 s3
          have e4 := e3.mono l3 w3 s3
          cases k with
          | true =>
            obtain ⟨y, Sy, zs', hf, hz2, hys⟩ := hk1 rfl
            refine iteT ⟨W0, H0, W3, Sk, ρ', own3, e4, ?_⟩
            rw [hf]
            intro W4 H4 l4 w4 s4 v rv
            have l34 := l3.trans l4 e3.wk w4
            have e5 := e2.mono l34 w4 s4
            have hL4 : H4 p = some (.lst av) := by
              rcases l34.kp p _ (sm _ _ hL) with ⟨n, z⟩ | z
              · exact absurd z (np n)
              · exact z
            have ra4 := (ra.mono (Lw.same sm)).mono (l34.lw e2.wk)
            have np4 : ∀ n, W4.phi n ≠ some p := fun n z => by
              rcases l34.ps n p z with y | y
              · exact np n y
              · exact y.no (sm _ _ hL)
            have Bp4 : W4.B p := l34.Bm p Bp
            refine ⟨av, hL4, by rw [ra.length, sizeLine_eq]; omega, ?_⟩
            have lwp : Lw W4 H4 W4 (upd H4 p (.lst (av ++ [v]))) := ⟨fun _ _ h => h, fun _ h => .inl h, fun c u h _ nb => by rw [upd_ne (fun z => nb (by rw [z]; exact Bp4))]; exact h⟩
            have lc4 := lc2.trans l34 w1 w4
            refine ⟨rfl, hlt, W4, Sy, av ++ [v], ad ++ [y], zs', e5.poke hL4 Bp4 z0 np4 nD, ⟨lc4.ph, lc4.ps, lc4.Bm, lc4.Bn, fun c u h tu => ?_⟩, Bp4, np4, upd_same, (ra4.mono lwp).app (.cons (rv.mono lwp) .nil), ?_, hz2, ?_⟩
            · rcases lc4.kp c u h tu with z | z
              · exact .inl z
              · exact .inr (by rw [upd_ne (fun q => by rw [q, hp] at h; cases h)]; exact z)
            · rw [List.length_append, List.length_singleton]; omega
            · rw [hy, hys, List.append_assoc]; rfl
          | false =>
            refine iteF ⟨rfl, hlt, W3, Sk, av, ad, zs, e2.mono l3 w3 s3, lc2.trans l3 w1 w3, l3.Bm p Bp, fun n z => ?_, ?_, (ra.mono (Lw.same sm)).mono (l3.lw e2.wk), by omega, hk0 rfl, hy⟩
            · rcases l3.ps n p z with y | y
              · exact np n y
              · exact y.no (sm _ _ hL)
            · rcases l3.kp p _ (sm _ _ hL) with ⟨n, z⟩ | z
              · exact absurd z (np n)
              · exact z
      · have e : i = ds.length := by omega
        subst e
        rw [List.drop_length] at hr
        have hr : Res.ok ([] : List D) Sc = Res.ok zs S2 := hr
        injection hr with hr1 hr2
        subst hr1 hr2
        rw [List.append_nil] at hy
        subst hy
        refine .inl ⟨hJ.stop Wc H' (lc.lw w1) _ (Nat.le_refl _), ?_⟩
        have lwd : Lw Wc H' (Wc.del p) H' := ⟨fun _ _ h => h, fun _ h => .inl h.1, fun _ _ h _ _ => h⟩
        refine fin (Wc.del p) H' ⟨lc.ph, lc.ps, fun a h => ⟨lc.Bm a h, fun z => w1.free hp (by rw [← z]; exact h)⟩, fun a h => lc.Bn a h.1, lc.kp'⟩ ⟨fun a h => ec.wk.tr a h.1, fun n a h => ⟨ec.wk.rg n a h, fun z => np n (by rw [← z]; exact h)⟩, ec.wk.ij⟩
          ⟨fun n c h => let ⟨a, h1, h2⟩ := ec.st.at_ n c h; ⟨a, h1, h2.same lwd fun _ q => q⟩, ec.st.top, ec.st.tb⟩ _ (.lst hL (fun z => z.2 rfl) (ra.mono lwd))

variable {fi : Env → M (List D)} {b : Bd} {t : Env → M Bool} {f : Env → M D} {vs ws : List Nat}
abbrev DTs (X : Cx) (cl : Cls_) (E : WX) (es : List Expr) (f : Env → M Bool) : Prop := PTs X es (tB_ ⟨X.K, cl⟩ E f)
theorem pts_imp {es : List Expr} {t t' : TT} (h : PTs X es t) (i : ∀ σ H Q, t' σ H Q → t σ H Q) : PTs X es t' := ⟨fun pins s σ H Q I q => h.run pins s σ H Q I (i σ H Q q)⟩
theorem dts_nil : DTs X cl E [] cYes := pts_imp pts_nil fun σ H Q ⟨W0, H0, W, S, ρ, own, ev, h⟩ => Po.now ev.wk ev.st h
theorem dts_one {c : Expr} (h : DT X cl E c t) : DTs X cl E [c] t := pts_one h
abbrev Cx.bl (X : Cx) (s : Shared) (H : Hp) (scope : Scope) (C : Addr) (cs : List (Str × Addr)) (fp : List Addr) : Cx := X.blk s H scope (compEnvC scope cs C X.env) fp
theorem de_lc {elt tg iter : Expr} {ifs : List Expr} {scope : Scope} (own : List (Str × Nat)) {pos : Pos} (hc : X.calm = true) (hN : X.N.Nodup) (hi : DI X cl E tg iter fi) (ok : BlkOk X.N X.env.scope scope own)
    (hg : ∀ (s : Shared) (H : Hp) (C : Addr) (cs : List (Str × Addr)) (fp : List Addr), DG (Cx.bl X s H scope C cs fp) cl tg b ws) (ht : ∀ (s : Shared) (H : Hp) (C : Addr) (cs : List (Str × Addr)) (fp : List Addr), DTs (Cx.bl X s H scope C cs fp) cl E0_ ifs t)
    (he : ∀ (s : Shared) (H : Hp) (C : Addr) (cs : List (Str × Addr)) (fp : List Addr), DE (Cx.bl X s H scope C cs fp) cl E0_ elt f) (hw : ∀ i ∈ ws, i ∈ own.map (·.2) := by decide) (hs : ∀ x, foldedSetIterable iter X.env x = pure x := by intro _; rfl) :
    DE X cl E (.ListComp elt [⟨tg, iter, ifs, 0⟩] scope pos) (cComp fi b t f (own.map (·.2))) :=
  pe_imp (pe_lc hc hN hi ok hg ht he hs) fun σ H Q h => tLc_of (G := ⟨X.K, cl⟩) hw h

/-! ### statements -/
theorem PoS.step {G : Gx} {E : WX} {W0 W W1 : Wd} {H0 H H1 : Hp} {r : RS} {R : Fl → Env → Store → Wd → Hp → L2.St → (Nat → Option Addr) → Prop} (l : Lw W H W1 H1) (h : PoS G E W0 H0 W H r R) : PoS G E W0 H0 W1 H1 r R := by
  cases r with
  | go fl ρ' S' => exact fun W' H' σ' own' l' e' => h W' H' σ' own' (l.trans l') e'
  | exc c fs ρ' S' => exact fun W' H' σ' own' cls dd l' e' => h W' H' σ' own' cls dd (l.trans l') e'
  | bad => exact h
theorem PoS.imp {G : Gx} {E : WX} {W0 W : Wd} {H0 H : Hp} {r : RS} {R R' : Fl → Env → Store → Wd → Hp → L2.St → (Nat → Option Addr) → Prop} (h : PoS G E W0 H0 W H r R)
    (i : ∀ fl ρ' S' W' H' σ' own', Lw W H W' H' → Ev G W0 H0 W' H' S' σ' ρ' own' → R fl ρ' S' W' H' σ' own' → R' fl ρ' S' W' H' σ' own') : PoS G E W0 H0 W H r R' := by
  cases r with
  | go fl ρ' S' => exact fun W' H' σ' own' l' e' => i _ _ _ _ _ _ _ l' e' (h W' H' σ' own' l' e')
  | exc c fs ρ' S' => exact h
  | bad => exact h
abbrev wF (G : Gx) (Dn : Ends) : Fl → Env → Store → Wd → Hp → L2.St → (Nat → Option Addr) → Prop := fun fl _ _ W' H' σ' _ => wantF G Dn W' σ' H' fl
/-- an expression's result, then what is made of it -/
def onE {α : Type} (r : Res α) (ρ : Env) (k : α → Store → RS) : RS := match r with
  | .ok a S' => k a S'
  | .exc c fs S' => .exc c fs ρ S'
  | .bad => .bad
theorem PoS.onE {G : Gx} {E : WX} {W0 W : Wd} {H0 H : Hp} {S : Store} {σ : L2.St} {ρ : Env} {own : Nat → Option Addr} {α : Type} {r : Res α} {k : α → Store → RS} {R : Fl → Env → Store → Wd → Hp → L2.St → (Nat → Option Addr) → Prop}
    (ev : Ev G W0 H0 W H S σ ρ own) (h : PoS G E W0 H0 W H (DN.onE r ρ k) R) : Po G E σ W H r (fun a S1 W1 H1 => PoS G E W0 H0 W1 H1 (k a S1) R) := by
  cases r with
  | ok a S' => exact fun W' H' l w s => PoS.step (l.lw ev.wk) h
  | exc c fs S' => exact fun W' H' cls dd l w s x => h W' H' σ own cls dd (l.lw ev.wk) (ev.mono l w s) x
  | bad => exact h
def cAsg (fe : Env → M D) (b : Bd) : Sm := fun ρ S => onE (fe ρ S) ρ fun d S' => match b d ρ with
  | some ρ' => .go .nx ρ' S'
  | none => .bad
def cRet (fe : Env → M D) : Sm := fun ρ S => onE (fe ρ S) ρ fun d S' => .go (.rt d) ρ S'
def cDrop (fe : Env → M D) : Sm := fun ρ S => onE (fe ρ S) ρ fun _ S' => .go .nx ρ S'
def cIfS (t : Env → M Bool) (f g : Sm) : Sm := fun ρ S => onE (t ρ S) ρ fun b S' => if b then f ρ S' else g ρ S'
def cNext : Sm := fun ρ S => .go .nx ρ S
def cRetN : Sm := fun ρ S => .go (.rt .non) ρ S
def cBrk : Sm := fun ρ S => .go .bk ρ S
def cCont : Sm := fun ρ S => .go .ct ρ S
def cSeq (f g : Sm) : Sm := fun ρ S => match f ρ S with
  | .go .nx ρ' S' => g ρ' S'
  | r => r
def forL (b : Bd) (body : Sm) : List D → Sm
  | [] => fun ρ S => .go .nx ρ S
  | d :: ds => fun ρ S => match b d ρ with
    | none => .bad
    | some ρ1 => match body ρ1 S with
      | .go .nx ρ2 S2 => forL b body ds ρ2 S2
      | .go .ct ρ2 S2 => forL b body ds ρ2 S2
      | .go .bk ρ2 S2 => .go .nx ρ2 S2
      | r => r
def cFor (fi : Env → M (List D)) (b : Bd) (body : Sm) : Sm := fun ρ S => onE (fi ρ S) ρ fun ds S' => forL b body ds ρ S'
variable {e c : Expr} {st : Stmt} {sts body orelse : List Stmt} {fe : Env → M D} {fs gs : Sm} {pos : Pos}
theorem dss_nil : DSs X cl E [] cNext := pss_imp pss_nil fun Dn σ H ⟨W0, H0, W, S, ρ, own, ev, h⟩ => h W H σ own Lw.refl ev
theorem dss_one (h : DS X cl E st fs) : DSs X cl E [st] fs := pss_one h
theorem dss_cons (h1 : DS X cl E st fs) (h2 : DSs X cl E sts gs) : DSs X cl E (st :: sts) (cSeq fs gs) := by
  refine pss_imp (pss_cons h1 h2) fun Dn σ H ⟨W0, H0, W, S, ρ, own, ev, h⟩ => ?_
  refine ⟨W0, H0, W, S, ρ, own, ev, ?_⟩
  have h : PoS ⟨X.K, cl⟩ E W0 H0 W H (cSeq fs gs ρ S) (wF ⟨X.K, cl⟩ Dn) := h
  unfold cSeq at h
  cases q : fs ρ S with
  | bad => rw [q] at h; exact h
  | exc c f ρ' S' => rw [q] at h; exact h
  | go fl ρ' S' =>
    rw [q] at h
    intro W' H' σ' own' l' e'
    cases fl with
    | nx => exact ⟨W0, H0, W', S', ρ', own', e', PoS.step l' h⟩
    | rt d => exact h W' H' σ' own' l' e'
    | bk => exact h W' H' σ' own' l' e'
    | ct => exact h W' H' σ' own' l' e'
theorem ds_pass : DS X cl E (.Pass pos) cNext := ps_imp ps_pass fun Dn σ H ⟨W0, H0, W, S, ρ, own, ev, h⟩ => h W H σ own Lw.refl ev
theorem ds_doc {x j pos pos'} : DS X cl E (.Expr (.Constant (.str x) j pos) pos') cNext := ps_imp ps_doc fun Dn σ H ⟨W0, H0, W, S, ρ, own, ev, h⟩ => h W H σ own Lw.refl ev
theorem ds_break : DS X cl E (.Break pos) cBrk := ps_imp ps_break fun Dn σ H ⟨W0, H0, W, S, ρ, own, ev, h⟩ => h W H σ own Lw.refl ev
theorem ds_cont : DS X cl E (.Continue pos) cCont := ps_imp ps_continue fun Dn σ H ⟨W0, H0, W, S, ρ, own, ev, h⟩ => h W H σ own Lw.refl ev
theorem ds_retN : DS X cl E (.Return none pos) cRetN := ps_imp ps_retN fun Dn σ H ⟨W0, H0, W, S, ρ, own, ev, h⟩ => h W H σ own Lw.refl ev .non .non
theorem ds_ret (he : DE X cl E e fe) : DS X cl E (.Return (some e) pos) (cRet fe) := by
  refine ps_imp (ps_ret he) fun Dn σ H ⟨W0, H0, W, S, ρ, own, ev, h⟩ => ⟨W0, H0, W, S, ρ, own, ev, (PoS.onE ev h).imp fun d S1 W1 H1 l w s hh v rv => ?_⟩
  exact hh W1 H1 σ own Lw.refl (ev.mono l w s) v rv
theorem ds_expr (he : DE X cl E e fe) (hs : swapsWith e none pos.line X.env = pure false := by rfl) : DS X cl E (.Expr e pos) (cDrop fe) := by
  refine ps_imp (ps_expr he hs) fun Dn σ H ⟨W0, H0, W, S, ρ, own, ev, h⟩ => ⟨W0, H0, W, S, ρ, own, ev, (PoS.onE ev h).imp fun d S1 W1 H1 l w s hh v rv => ?_⟩
  exact hh W1 H1 σ own Lw.refl (ev.mono l w s)
theorem ds_if {a b : List Stmt} (hc : DT X cl E c t) (ha : DSs X cl E a fs) (hb : DSs X cl E b gs) : DS X cl E (.If c a b pos) (cIfS t fs gs) := by
  refine ps_imp (ps_if hc ha hb) fun Dn σ H ⟨W0, H0, W, S, ρ, own, ev, h⟩ => ⟨W0, H0, W, S, ρ, own, ev, (PoS.onE ev h).imp fun k S1 W1 H1 l w s hh => ?_⟩
  cases k with
  | true => exact iteT ⟨W0, H0, W1, S1, ρ, own, ev.mono l w s, hh⟩
  | false => exact iteF ⟨W0, H0, W1, S1, ρ, own, ev.mono l w s, hh⟩
theorem ds_asg {tg : Expr} (he : DE X cl E e fe) (hg : DG X cl tg b ws) (hs : swapsWithSole [tg] e pos.line X.env = pure false := by rfl) (hw : swappedStores [tg] e X.env = pure none := by rfl) (h1 : (assignEach [tg] X.env).map (·.2) = [assign tg X.env] := by rfl) : DS X cl E (.Assign [tg] e pos) (cAsg fe b) := by
  refine ps_imp (ps_asg he hg hs hw h1) fun Dn σ H ⟨W0, H0, W, S, ρ, own, ev, h⟩ => ⟨W0, H0, W, S, ρ, own, ev, (PoS.onE ev h).imp fun d S1 W1 H1 l w s hh v rv => ?_⟩
  cases q : b d ρ with
  | none => rw [q] at hh; exact hh.elim
  | some ρ' =>
    rw [q] at hh
    exact ⟨W0, H0, W1, S1, ρ, own, d, ρ', ev.mono l w s, rv, q, fun σ' own' _ e' => hh W1 H1 σ' own' Lw.refl e'⟩
/-- name = value -/
theorem ds_set (i : Nat) {x : Str} {pos' : Pos} (hN : X.N.Nodup) (he : DE X cl E e fe) (hi : X.N[i]? = some x := by rfl) (hx : Loc X.env.scope x := by first | exact Or.inl rfl | exact Or.inr rfl) (hs : swapsWith e (some (.Name x pos')) pos.line X.env = pure false := by rfl) (hf : X.fn x = true ∨ X.env.scope.names.lookup x = some .local := by first | exact .inl rfl | exact .inr rfl) :
    DS X cl E (.Assign [.Name x pos'] e pos) (cAsg fe (bName i)) := by
  refine ps_imp (ps_set (i := i) hN hi hx he hs hf) fun Dn σ H ⟨W0, H0, W, S, ρ, own, ev, h⟩ => ⟨W0, H0, W, S, ρ, own, ev, (PoS.onE ev h).imp fun d S1 W1 H1 l w s hh v rv => ?_⟩
  exact hh W1 H1 _ _ Lw.refl ((ev.mono l w s).set rv)
/-- name = [..] -/
theorem ds_setLc (i : Nat) {y : Str} {py : Pos} {elt tg iter : Expr} {ifs : List Expr} {scope : Scope} (own : List (Str × Nat)) {pos spos : Pos} (hc : X.calm = true) (hN : X.N.Nodup) (hi : DI X cl E tg iter fi) (ok : BlkOk X.N X.env.scope scope own)
    (hg : ∀ (s : Shared) (H : Hp) (C : Addr) (cs : List (Str × Addr)) (fp : List Addr), DG (Cx.bl X s H scope C cs fp) cl tg b ws) (ht : ∀ (s : Shared) (H : Hp) (C : Addr) (cs : List (Str × Addr)) (fp : List Addr), DTs (Cx.bl X s H scope C cs fp) cl E0_ ifs t)
    (he : ∀ (s : Shared) (H : Hp) (C : Addr) (cs : List (Str × Addr)) (fp : List Addr), DE (Cx.bl X s H scope C cs fp) cl E0_ elt f)
    (hsw : swapsWith (.ListComp elt [⟨tg, iter, ifs, 0⟩] scope pos) (some (.Name y py)) spos.line X.env = pure true := by exact sw_true rfl rfl rfl (by decide +kernel)) (hy : X.N[i]? = some y := by rfl) (hyl : X.env.scope.names.lookup y = some .local := by rfl)
    (hw : ∀ i ∈ ws, i ∈ own.map (·.2) := by decide) (hs : ∀ x, foldedSetIterable iter X.env x = pure x := by intro _; rfl) :
    DS X cl E (.Assign [.Name y py] (.ListComp elt [⟨tg, iter, ifs, 0⟩] scope pos) spos) (cAsg (cComp fi b t f (own.map (·.2))) (bName i)) := by
  refine ps_imp (ps_setLc (i := i) (g := tG ⟨X.K, cl⟩ b ws) (tt := tB_ ⟨X.K, cl⟩ E0_ t) (te := tE ⟨X.K, cl⟩ E0_ f) hc hN hy hyl hsw hi ok hg ht he hs) fun Dn σ H ⟨W0, H0, W, S, ρ, own', ev, h⟩ => ?_
  refine tLc_of (G := ⟨X.K, cl⟩) hw ⟨W0, H0, W, S, ρ, own', ev, (PoS.onE ev h).imp fun d S1 W1 H1 l w s hh v rv => ?_⟩
  exact hh W1 H1 _ _ Lw.refl ((ev.mono l w s).set rv)
theorem ds_for {tg iter : Expr} (hp : PassesOwn (model X.prog X.w) X.A X.env X.xe) (hc : X.calm = true) (hi : DI X cl E tg iter fi) (hg : DG X cl tg b ws) (hb : DSs X cl E body fs) (hs : ∀ x, foldedSetIterable iter X.env x = pure x := by intro _; rfl) :
    DS X cl E (.For tg iter body [] pos) (cFor fi b fs) := by
  refine ps_imp (ps_for hp hc hi hg hb hs) fun Dn σ H ⟨W0, H0, W, S, ρ, own, ev, h⟩ => ?_
  refine ⟨W0, H0, W, S, ρ, own, ev, (PoS.onE ev h).imp fun ds S1 W1 H1 l1 w1 s1 hh J hJ => ?_⟩
  refine ⟨fun i m σ' H' => m = ds.length - i ∧ i ≤ ds.length ∧ ∃ (Wc : Wd) (Sc : Store) (ρc : Env) (oc : Nat → Option Addr), Ev ⟨X.K, cl⟩ W0 H0 Wc H' Sc σ' ρc oc ∧ Lw W1 H1 Wc H' ∧ PoS ⟨X.K, cl⟩ E W0 H0 Wc H' (forL b fs (ds.drop i) ρc Sc) (wF ⟨X.K, cl⟩ Dn),
    ⟨ds.length, by simp, Nat.zero_le _, W1, S1, ρ, own, ev.mono l1 w1 s1, Lw.refl, hh⟩, ?_⟩
  rintro i m σ' H' ⟨rfl, hi, Wc, Sc, ρc, oc, ec, lc, hq⟩
  by_cases hlt : i < ds.length
  · obtain ⟨d, hd⟩ : ∃ d, ds[i]? = some d := ⟨ds[i], by simp [hlt]⟩
    have hdr : ds.drop i = d :: ds.drop (i + 1) := by
      rw [List.drop_eq_getElem_cons hlt]
      have : ds[i] = d := by simpa [hlt] using hd
      rw [this]
    rw [hdr] at hq
    obtain ⟨go, yl⟩ := hJ.go Wc H' lc ec.wk i d hd
    refine .inr ⟨go, _, fun σ2 H2 h2 => ⟨ds.length - (i + 1), by omega, h2⟩, fun x H2 y2 => ?_⟩
    obtain ⟨sm, rx⟩ := yl x H2 y2
    have e2 := ec.same sm
    have hq := PoS.step (Lw.same sm) hq
    unfold forL at hq
    cases q : b d ρc with
    | none => rw [q] at hq; exact hq.elim
    | some ρ1 =>
      rw [q] at hq
      dsimp only at hq
      refine ⟨W0, H0, Wc, Sc, ρc, oc, d, ρ1, e2, rx, q, fun σ3 own3 _ e3 => ⟨W0, H0, Wc, Sc, ρ1, own3, e3, ?_⟩⟩
      cases q2 : fs ρ1 Sc with
      | bad => rw [q2] at hq; exact hq.elim
      | exc c f ρ' S' => rw [q2] at hq; exact hq
      | go fl ρ2 S2 =>
        rw [q2] at hq
        intro W' H3 σ4 own4 l4 e4
        have l5 := (lc.trans (Lw.same sm)).trans l4
        cases fl with
        | nx => exact ⟨rfl, hlt, W', S2, ρ2, own4, e4, l5, PoS.step l4 hq⟩
        | ct => exact ⟨rfl, hlt, W', S2, ρ2, own4, e4, l5, PoS.step l4 hq⟩
        | bk => exact hq W' H3 σ4 own4 l4 e4
        | rt d => exact hq W' H3 σ4 own4 l4 e4
  · have e : i = ds.length := by omega
    subst e
    rw [List.drop_length] at hq
    exact .inl ⟨hJ.stop Wc H' lc _ (Nat.le_refl _), hq Wc H' σ' oc Lw.refl ec⟩
end

/-! ### defs -/
def runF (n m : Nat) (body : Sm) : List D → M D := fun ds S =>
  if ds.length = n then
    match body (ds.map Sl.val ++ List.replicate (m - n) Sl.un) S with
    | .go (.rt d) _ S' => .ok d S'
    | .go .nx _ S' => .ok .non S'
    | .exc c fs _ S' => .exc c fs S'
    | _ => .bad
  else .bad
def spD (G : Gx) (n : Nat) (F : List D → M D) : Sp := fun vs H Q E => ∃ W S ds, WOk W H ∧ StOk G W H S ∧ RpA G W H vs ds ∧ ds.length = n ∧ Po G (fun c d _ H => E c d H) [] W H (F ds S) (RV G Q)
theorem Po.wish {G : Gx} {E E' : WX} {σ σ' : L2.St} {W : Wd} {H : Hp} {α : Type} {r : Res α} {R : α → Store → Wd → Hp → Prop} (h : Po G E σ W H r R) (i : ∀ c d H, E c d σ H → E' c d σ' H) : Po G E' σ' W H r R := by
  cases r with
  | ok a S' => exact h
  | exc c fs S' => exact fun W' H' cls dd l w s x => i _ _ _ (h W' H' cls dd l w s x)
  | bad => exact h
theorem ev_start {G : Gx} {W : Wd} {H : Hp} {S : Store} {vs : List V} {ds : List D} {m : Nat} (N : List Str) (w : WOk W H) (s : StOk G W H S) (r : RpA G W H vs ds) (hm : m = N.length) : Ev G W H W H S (L2.start N vs) (ds.map Sl.val ++ List.replicate (m - ds.length) Sl.un) (fun _ => none) := by
  refine ⟨w, w, Le.refl, s, ?_, fun i d h => ?_, fun i xs h => ?_, fun i a h => (nomatch h), fun i j a h => (nomatch h)⟩
  · unfold L2.start
    rw [List.length_append, List.length_append, List.length_map, List.length_map, List.length_replicate, List.length_replicate, r.length, hm]
  · by_cases hi : i < ds.length
    · rw [List.getElem?_append_left (by simpa using hi), List.getElem?_map] at h
      obtain ⟨d', h1, h2⟩ := Option.map_eq_some_iff.mp h
      cases h2
      obtain ⟨v, h3, h4⟩ := r.get h1
      refine ⟨v, ?_, h4⟩
      unfold L2.start
      rw [List.getElem?_append_left (by rw [List.length_map, r.length]; exact hi), List.getElem?_map, h3]
      rfl
    · rw [List.getElem?_append_right (by simpa using hi), List.getElem?_replicate] at h
      split at h <;> cases h
  · by_cases hi : i < ds.length
    · rw [List.getElem?_append_left (by simpa using hi), List.getElem?_map] at h
      obtain ⟨d', h1, h2⟩ := Option.map_eq_some_iff.mp h
      cases h2
    · rw [List.getElem?_append_right (by simpa using hi), List.getElem?_replicate] at h
      split at h <;> cases h
section
variable {P : Program} {w : World} {K : PySem.W.Frag} {mg : Str → Option Value} {base : Heap} {cl : Cls_}
abbrev FnD (P : Program) (w : World) (K : PySem.W.Frag) (mg : Str → Option Value) (base : Heap) (cl : Cls_) (k : Nat) (f : Addr) (fd : FuncData) (ps : List Str) (F : List D → M D) : Prop := FnOk P w K mg base (L2.CX P w) k f fd ps (spD ⟨K, cl⟩ ps.length F)
/-- the context of a def's body -/
abbrev cxD (P : Program) (w : World) (K : PySem.W.Frag) (mg : Str → Option Value) (base : Heap) (N : List Str) (qual : Str) (st : Stmt) (f : Addr) (cdv : Value) (A : Around) (outer : List PySem.Env) (s : Shared) (H : Hp) (E : XK) : Cx := cxOf (L2.CX P w) P w K mg base N qual (defScope st) f cdv A outer s H E
theorem fn_D {x qual : Str} {st : Stmt} {f : Addr} {fd : FuncData} {N ps : List Str} {k : Nat} {body : Sm} (F : Fun K x qual st f fd) (S : FnScope N ps (defScope st))
    (hb : ∀ (cdv : Value) (A : Around) (outer : List PySem.Env) (s : Shared) (H : Hp) (E : XK), Room k (A.deeper (envOfC qual (defScope st) s.heap.objs.size f cdv)) → DSs (cxD P w K mg base N qual st f cdv A outer s H E) cl (fun c d _ H => E c d H) (defBody st) body) :
    FnD P w K mg base cl (k + 1) f fd ps (runF ps.length N.length body) := by
  refine F.okX S (fun vs H Q E ⟨W, S, ds, _, _, r, e, _⟩ => r.length.trans e) fun cdv A outer s H vs Q E hr ⟨W, S, ds, w0, s0, r, e, h⟩ => ⟨_, hb cdv A outer s H E hr, ?_⟩
  refine ⟨W, H, W, S, _, _, ev_start N w0 s0 r rfl, ?_⟩
  have h : Po ⟨K, cl⟩ (fun c d _ H => E c d H) [] W H (runF ps.length N.length body ds S) (RV ⟨K, cl⟩ Q) := h
  unfold runF at h
  rw [if_pos e, ← e] at h
  cases q : body (ds.map Sl.val ++ List.replicate (N.length - ds.length) Sl.un) S with
  | bad => rw [q] at h; exact h.elim
  | exc c fs ρ' S' =>
    rw [q] at h
    exact fun W' H' σ' own' cls dd l' e' x => h W' H' cls dd e'.le e'.wk e'.st x
  | go fl ρ' S' =>
    rw [q] at h
    intro W' H' σ' own' l' e'
    cases fl with
    | nx => exact h W' H' e'.le e'.wk e'.st _ .non
    | rt d => exact fun v rv => h W' H' e'.le e'.wk e'.st v rv
    | bk => exact h.elim
    | ct => exact h.elim
end
/-- a call of a def of the text -/
def cCall (n : Nat) (F : List D → M D) (fs : Env → M (List D)) : Env → M D := cA (fun ds => if ds.length = n then F ds else M.bad) fs
section
variable {X : Cx} {cl : Cls_} {E : WX} {k : Nat} {f : Addr} {fd : FuncData} {ps : List Str} {x : Str} {p pos : Pos} {e : Expr} {es : List Expr} {fs : Env → M (List D)} {F : List D → M D}
theorem de_call (FF : FnD X.prog X.w X.K X.mg X.base cl k f fd ps F) (hr : Room k X.A) (hm : X.mg x = some (.ref f)) (hk : PySem.W.keepIn X.K (.ref f) = true) (hb : Binds X.K fd ps []) (tk : Takes X E) (ha : DA X cl E (e :: es) fs) (hg : Gl X x := by rfl) (hdb : (x == ("__debug__" : Str)) = false := by decide)
    (he : starEach (e :: es) X.env = (false, eval e X.env) :: starEach es X.env := by rfl) (hpl : (backTo pos (starEach es X.env)).any (·.1) = false := by rfl) : DE X cl E (.Call (.Name x p) (e :: es) [] pos) (cCall ps.length F fs) := by
  refine pe_imp (pe_callS FF hr hg hm hk hb (fun σ => passAt tk σ) ha hdb he hpl) fun σ H Q h => ?_
  refine tA_bind h fun W0 H0 W1 H1 S1 ρ own vs ds ev r hh => ?_
  obtain ⟨c, hh⟩ := po_if hh
  exact ⟨W1, S1, ds, ev.wk, ev.st, r, c, hh.wish fun _ _ _ q => q⟩
end
end DN
/-! DN6: in, stores into cells, lists of one's own, pairs of names, texts. -/
namespace DN
open PySem PySem.Spec PyProof.Rows L2

theorem _root_.L2.Room.un65 {k : Nat} {A : Around} (r : Room k A) : A.units + 65 < cLine := by have := r.un; omega
/-! ### in -/
def inP (x : D) (ys : List D) : Option Bool := match toP x, toPs ys with
  | some p, some qs => if SeqAt.shaped p = true ∧ SeqAt.shaped (.list qs) = true ∧ SeqAt.shaped (.tuple qs) = true then some (qs.any fun z => PyData.eqv z p) else none
  | _, _ => none
def inD : D → D → Option Bool
  | x, .lst ys => inP x ys
  | x, .tup ys => inP x ys
  | .str ⟨cs⟩, .str z => match cs.toList with
    | [c] => some (decide (c ∈ z.cps.toList))
    | _ => none
  | _, _ => none
def gIn (x y : D) : M D := match inD x y with
  | some b => M.pure (.bl b)
  | none => M.bad
def gNotIn (x y : D) : M D := match inD x y with
  | some b => M.pure (.bl (!b))
  | none => M.bad
section
variable {X : Cx} {cl : Cls_} {K : PySem.W.Frag}
def rInT (K : PySem.W.Frag) : R2 := fun x y H Q => ∃ d ds, Dp K H x d ∧ Dp K H y (.tuple ds) ∧ SeqAt.shaped d = true ∧ SeqAt.shaped (.tuple ds) = true ∧ Q (.bl (ds.any fun z => PyData.eqv z d)) H
def rNotInT (K : PySem.W.Frag) : R2 := fun x y H Q => ∃ d ds, Dp K H x d ∧ Dp K H y (.tuple ds) ∧ SeqAt.shaped d = true ∧ SeqAt.shaped (.tuple ds) = true ∧ Q (.bl (!ds.any fun z => PyData.eqv z d)) H
theorem op_inT (hu : X.A.units + 65 < cLine) : OpR X (compareOp .In) (rInT X.K) := by
  rintro pins s σ H x y v u Q I rx ry ⟨d, ds, hd, hds, s1, s2, q⟩
  obtain ⟨as, r1⟩ := Dp.reads I d x v hd rx
  obtain ⟨bs, r2⟩ := Dp.reads I (.tuple ds) y u hds ry
  exact SeqAt.in_tuple_reads r2 r1 (SeqAt.canLay_of_shaped s2) (SeqAt.canLay_of_shaped s1) (room_in_shaped s1 hu) (fin_bl I q rfl)
theorem op_notInT (hu : X.A.units + 65 < cLine) : OpR X (compareOp .NotIn) (rNotInT X.K) := by
  rintro pins s σ H x y v u Q I rx ry ⟨d, ds, hd, hds, s1, s2, q⟩
  obtain ⟨as, r1⟩ := Dp.reads I d x v hd rx
  obtain ⟨bs, r2⟩ := Dp.reads I (.tuple ds) y u hds ry
  exact SeqAt.notIn_tuple_reads r2 r1 (SeqAt.canLay_of_shaped s2) (SeqAt.canLay_of_shaped s1) (room_in_shaped s1 hu) (fin_bl I q rfl)
def rInA (K : PySem.W.Frag) : R2 := fun x y H Q => rInD K x y H Q ∨ rInT K x y H Q ∨ ∃ (c : Nat) (z : Str), x = .str ⟨#[c]⟩ ∧ y = .str z ∧ Q (.bl (decide (c ∈ z.cps.toList))) H
def rNotInA (K : PySem.W.Frag) : R2 := fun x y H Q => rNotInD K x y H Q ∨ rNotInT K x y H Q ∨ ∃ (c : Nat) (z : Str), x = .str ⟨#[c]⟩ ∧ y = .str z ∧ Q (.bl (!decide (c ∈ z.cps.toList))) H
theorem op_inA (hu : X.A.units + 65 < cLine) : OpR X (compareOp .In) (rInA X.K) := (op_inD hu).or ((op_inT hu).or op_in_sign)
theorem op_notInA (hu : X.A.units + 65 < cLine) : OpR X (compareOp .NotIn) (rNotInA X.K) := (op_notInD hu).or ((op_notInT hu).or op_notIn_sign)
theorem inP_ok {x : D} {ys : List D} {b : Bool} (h : inP x ys = some b) : ∃ p qs, toP x = some p ∧ toPs ys = some qs ∧ SeqAt.shaped p = true ∧ SeqAt.shaped (.list qs) = true ∧ SeqAt.shaped (.tuple qs) = true ∧ b = qs.any fun z => PyData.eqv z p := by
  unfold inP at h
  cases q1 : toP x with
  | none => rw [q1] at h; cases h
  | some p =>
    cases q2 : toPs ys with
    | none => rw [q1, q2] at h; cases h
    | some qs =>
      rw [q1, q2] at h
      dsimp only at h
      by_cases hc : SeqAt.shaped p = true ∧ SeqAt.shaped (.list qs) = true ∧ SeqAt.shaped (.tuple qs) = true
      · rw [if_pos hc] at h
        cases h
        exact ⟨p, qs, rfl, rfl, hc.1, hc.2.1, hc.2.2, rfl⟩
      · rw [if_neg hc] at h; cases h
theorem inD_ok {W : Wd} {H : Hp} {x y : V} {dx dy : D} {b : Bool} (rx : Rp ⟨K, cl⟩ W H x dx) (ry : Rp ⟨K, cl⟩ W H y dy) (h : inD dx dy = some b) :
    (∃ d ds, Dp K H x d ∧ Dp K H y (.list ds) ∧ SeqAt.shaped d = true ∧ SeqAt.shaped (.list ds) = true ∧ b = ds.any fun z => PyData.eqv z d) ∨
    (∃ d ds, Dp K H x d ∧ Dp K H y (.tuple ds) ∧ SeqAt.shaped d = true ∧ SeqAt.shaped (.tuple ds) = true ∧ b = ds.any fun z => PyData.eqv z d) ∨
    ∃ (c : Nat) (z : Str), x = .str ⟨#[c]⟩ ∧ y = .str z ∧ b = decide (c ∈ z.cps.toList) := by
  cases dy with
  | lst ys =>
    have h : inP dx ys = some b := by cases dx <;> exact h
    obtain ⟨p, qs, e1, e2, s1, s2, s3, e⟩ := inP_ok h
    exact .inl ⟨p, qs, rx.dp e1, ry.dp (by simp [toP, e2]), s1, s2, e⟩
  | tup ys =>
    have h : inP dx ys = some b := by cases dx <;> exact h
    obtain ⟨p, qs, e1, e2, s1, s2, s3, e⟩ := inP_ok h
    exact .inr (.inl ⟨p, qs, rx.dp e1, ry.dp (by simp [toP, e2]), s1, s3, e⟩)
  | str z =>
    cases dx with
    | str c =>
      obtain ⟨cs⟩ := c
      cases rx; cases ry
      unfold inD at h
      dsimp only at h
      split at h
      · rename_i c e
        cases h
        refine .inr (.inr ⟨c, z, ?_, rfl, rfl⟩)
        have : cs = #[c] := by rw [← Array.toList_inj]; exact e
        rw [this]
      · cases h
    | _ => cases h
  | _ => cases dx <;> cases h
theorem od_in : OpD K cl (rInA K) gIn := by
  intro E σ W H S x y dx dy Q w s rx ry h
  unfold gIn at h
  cases q : inD dx dy with
  | none => rw [q] at h; exact h.elim
  | some b =>
    rw [q] at h
    rcases inD_ok rx ry q with ⟨d, ds, h1, h2, h3, h4, e⟩ | ⟨d, ds, h1, h2, h3, h4, e⟩ | ⟨c, z, h1, h2, e⟩
    · subst e; exact .inl ⟨d, ds, h1, h2, h3, h4, Po.val w s h (.bl _)⟩
    · subst e; exact .inr (.inl ⟨d, ds, h1, h2, h3, h4, Po.val w s h (.bl _)⟩)
    · subst e; exact .inr (.inr ⟨c, z, h1, h2, Po.val w s h (.bl _)⟩)
theorem od_notIn : OpD K cl (rNotInA K) gNotIn := by
  intro E σ W H S x y dx dy Q w s rx ry h
  unfold gNotIn at h
  cases q : inD dx dy with
  | none => rw [q] at h; exact h.elim
  | some b =>
    rw [q] at h
    rcases inD_ok rx ry q with ⟨d, ds, h1, h2, h3, h4, e⟩ | ⟨d, ds, h1, h2, h3, h4, e⟩ | ⟨c, z, h1, h2, e⟩
    · subst e; exact .inl ⟨d, ds, h1, h2, h3, h4, Po.val w s h (.bl _)⟩
    · subst e; exact .inr (.inl ⟨d, ds, h1, h2, h3, h4, Po.val w s h (.bl _)⟩)
    · subst e; exact .inr (.inr ⟨c, z, h1, h2, Po.val w s h (.bl _)⟩)
end

/-! ### a store into a cell: o[i] = v -/
def gSetI (o i v : D) : M Unit := match o, i with
  | .mut n, .int k => fun S => match S[n]? with
    | some (.lst xs) => match ixN xs.length k with
      | some j => .ok () (S.set n (.lst (xs.set j v)))
      | none => .bad
    | _ => .bad
  | _, _ => M.bad
def cSetI (fe fo fi : Env → M D) : Sm := fun ρ S => onE (fe ρ S) ρ fun v S1 => onE (fo ρ S1) ρ fun o S2 => onE (fi ρ S2) ρ fun i S3 => onE (gSetI o i v S3) ρ fun _ S4 => .go .nx ρ S4
/-- a cell is changed -/
theorem put_cell {G : Gx} {W : Wd} {H : Hp} {S : Store} {n : Nat} {a : Addr} {o : HO} {c : Cell} (w : WOk W H) (s : StOk G W H S) (h : W.phi n = some a) (hn : n < S.length) (hc : Lw W H W (upd H a o) → CellOk G W (upd H a o) a c) (t : nt o := by intro _ z; cases z) :
    Le W H W (upd H a o) ∧ WOk W (upd H a o) ∧ StOk G W (upd H a o) (S.set n c) := by
  have hB := w.rg n a h
  have lw : Lw W H W (upd H a o) := ⟨fun _ _ h => h, fun _ h => .inl h, fun b u q _ nb => by rw [upd_ne (fun z => nb (by rw [z]; exact hB))]; exact q⟩
  refine ⟨⟨fun _ _ h => h, fun _ _ h => .inl h, fun _ h => h, fun _ h => .inl h, fun b u q _ => ?_⟩, ⟨fun b q => ?_, w.rg, w.ij⟩, ⟨fun m c' q => ?_, fun m q => ?_, ?_⟩⟩
  · by_cases e : b = a
    · exact .inl ⟨n, by rw [e]; exact h⟩
    · exact .inr (by rw [upd_ne e]; exact q)
  · by_cases e : b = a
    · exact ⟨o, by rw [e, upd_same], t⟩
    · obtain ⟨u, z, tu⟩ := w.tr b q
      exact ⟨u, by rw [upd_ne e]; exact z, tu⟩
  · by_cases e : m = n
    · subst e
      rw [List.getElem?_set_self hn] at q
      cases q
      exact ⟨a, h, hc lw⟩
    · rw [List.getElem?_set_ne (Ne.symm e)] at q
      obtain ⟨b, h1, h2⟩ := s.at_ m c' q
      exact ⟨b, h1, h2.same lw fun u z => by rw [upd_ne (fun y => e (w.ij m n a (by rw [← y]; exact h1) h))]; exact z⟩
  · rw [List.length_set] at q
    exact s.top m q
  · obtain ⟨b, h1, h2⟩ := s.at_ n S[n] (List.getElem?_eq_getElem hn)
    rw [h] at h1
    cases h1
    cases q : S[n] with
    | lst ds =>
      rw [q] at h2
      obtain ⟨vs, e, _⟩ := h2
      exact Tabs.put s.tb e (by intro _ z; cases z) code_lst
    | dct ds =>
      rw [q] at h2
      obtain ⟨vs, e, _⟩ := h2
      exact Tabs.put s.tb e (by intro _ z; cases z) code_dK
section
variable {X : Cx} {cl : Cls_} {E : WX} {o i e : Expr} {fo fi fe : Env → M D} {pos tpos : Pos}
theorem ds_setI (he : DE X cl E e fe) (ho : DE X cl E o fo) (hi : DE X cl E i fi)
    (ha : ∀ v, assign (.Subscript o i tpos) X.env v = (do
      let ov ← holding [v] (eval o X.env)
      let iv ← holding [v, ov] (eval i X.env)
      standAt tpos
      holding [v, ov, iv] (setItem ov iv v)
      release [v, ov, iv] []) := by intro _; rfl)
    (hs : swapsWithSole [.Subscript o i tpos] e pos.line X.env = pure false := by rfl) (hw : swappedStores [.Subscript o i tpos] e X.env = pure none := by rfl) (h1 : (assignEach [.Subscript o i tpos] X.env).map (·.2) = [assign (.Subscript o i tpos) X.env] := by rfl) :
    DS X cl E (.Assign [.Subscript o i tpos] e pos) (cSetI fe fo fi) := by
  refine ps_imp (ps_asg he (pg_sub ho hi set_list ha) hs hw h1) fun Dn σ H ⟨W0, H0, W, S, ρ, own, ev, h⟩ => ⟨W0, H0, W, S, ρ, own, ev, (PoS.onE ev h).imp fun dv S1 W1 H1 l1 w1 s1 h1 v rv => ?_⟩
  have ev1 := ev.mono l1 w1 s1
  refine ⟨W0, H0, W1, S1, ρ, own, ev1, (PoS.onE ev1 h1).imp fun d_o S2 W2 H2 l2 w2 s2 h2 ov rov => ?_⟩
  have ev2 := ev1.mono l2 w2 s2
  refine ⟨W0, H0, W2, S2, ρ, own, ev2, (PoS.onE ev2 h2).imp fun di S3 W3 H3 l3 w3 s3 h3 iv riv => ?_⟩
  have ev3 := ev2.mono l3 w3 s3
  have rv3 := (rv.mono (l2.lw w1)).mono (l3.lw w2)
  have ro3 := rov.mono (l3.lw w2)
  cases d_o with
  | «mut» n =>
    cases di with
    | int k =>
      unfold gSetI at h3
      dsimp only at h3
      cases q : S3[n]? with
      | none => rw [q] at h3; exact h3.elim
      | some c =>
        rw [q] at h3
        cases c with
        | dct _ => exact h3.elim
        | lst xs =>
          dsimp only at h3
          cases qj : ixN xs.length k with
          | none => rw [qj] at h3; exact h3.elim
          | some j =>
            rw [qj] at h3
            obtain ⟨a, e1, vs, e2, ra⟩ := s3.at_ n _ q
            cases riv
            cases ro3 with
            | «mut» e0 =>
              rw [e1] at e0; cases e0
              refine ⟨a, vs, k, j, rfl, rfl, e2, by rw [ra.length]; exact qj, ?_⟩
              obtain ⟨l4, w4, s4⟩ := put_cell (o := .lst (vs.set j v)) (c := .lst (xs.set j dv)) w3 s3 e1 (List.getElem?_eq_some_iff.mp q).1 fun lw => ⟨_, upd_same, (ra.mono lw).set (rv3.mono lw) j⟩
              exact h3 W3 _ σ own (l4.lw w3) (ev3.mono l4 w4 s4)
    | _ => exact h3.elim
  | _ => exact h3.elim
end

/-! ### lists of the frame's own -/
def cSetOwn (i : Nat) (fs : Env → M (List D)) : Sm := fun ρ S => onE (fs ρ S) ρ fun ds S' => if ds.length ≤ 16777216 then .go .nx (ρ.set i (.own ds)) S' else .bad
def cApp (i : Nat) (fe : Env → M D) : Sm := fun ρ S => match ρ[i]? with
  | some (.own xs) => onE (fe ρ S) ρ fun d S' => if xs.length < 16777216 then .go .nx (ρ.set i (.own (xs ++ [d]))) S' else .bad
  | _ => .bad
def frzE (i : Nat) (ρ : Env) : Env := match ρ[i]? with
  | some (.own xs) => ρ.set i (.val (.lst xs))
  | _ => ρ
/-- from here on the list stays as it is -/
def cFrz (i : Nat) (f : Sm) : Sm := fun ρ S => f (frzE i ρ) S
theorem Ev.freeze {G : Gx} {W0 W : Wd} {H0 H : Hp} {S : Store} {σ : L2.St} {ρ : Env} {own : Nat → Option Addr} {i : Nat} (e : Ev G W0 H0 W H S σ ρ own) : ∃ W' own', Lw W H W' H ∧ Ev G W0 H0 W' H S σ (frzE i ρ) own' := by
  unfold frzE
  cases q : ρ[i]? with
  | none => exact ⟨W, own, Lw.refl, e⟩
  | some s =>
    cases s with
    | un => exact ⟨W, own, Lw.refl, e⟩
    | val d => exact ⟨W, own, Lw.refl, e⟩
    | own xs =>
      obtain ⟨p, vs, o1, h1, h2, r⟩ := e.so i xs q
      obtain ⟨hB, h0, hn⟩ := e.oB i p o1
      have lw : Lw W H (W.del p) H := ⟨fun _ _ h => h, fun _ h => .inl h.1, fun _ _ h _ _ => h⟩
      have hl : i < ρ.length := (List.getElem?_eq_some_iff.mp q).1
      refine ⟨W.del p, fun j => if j = i then none else own j, lw, e.w0, ⟨fun a h => e.wk.tr a h.1, fun n a h => ⟨e.wk.rg n a h, fun z => hn n (by rw [← z]; exact h)⟩, e.wk.ij⟩,
        ⟨e.le.ph, e.le.ps, fun a h => ⟨e.le.Bm a h, fun z => ?_⟩, fun a h => e.le.Bn a h.1, e.le.kp'⟩, ⟨fun n c h => let ⟨a, h1, h2⟩ := e.st.at_ n c h; ⟨a, h1, h2.same lw fun _ q => q⟩, e.st.top, e.st.tb⟩, by simp [e.len], fun j d h => ?_, fun j ds h => ?_, fun j a h => ?_, fun j k a h1 h2 => ?_⟩
      · obtain ⟨o, y, t⟩ := e.w0.tr a h
        rw [z] at y
        exact h0.no y t
      · by_cases hj : j = i
        · subst hj
          rw [List.getElem?_set_self hl] at h
          cases h
          exact ⟨.ref p, h1, .lst h2 (fun z => z.2 rfl) (r.mono lw)⟩
        · rw [List.getElem?_set_ne (Ne.symm hj)] at h
          obtain ⟨v, h3, h4⟩ := e.sl j d h
          exact ⟨v, h3, h4.mono lw⟩
      · by_cases hj : j = i
        · subst hj
          rw [List.getElem?_set_self hl] at h
          cases h
        · rw [List.getElem?_set_ne (Ne.symm hj)] at h
          obtain ⟨a, us, h3, h4, h5, h6⟩ := e.so j ds h
          exact ⟨a, us, by show (if j = i then none else own j) = some a; rw [if_neg hj]; exact h3, h4, h5, h6.mono lw⟩
      · have h : (if j = i then none else own j) = some a := h
        by_cases hj : j = i
        · rw [if_pos hj] at h; cases h
        · rw [if_neg hj] at h
          obtain ⟨h3, h4, h5⟩ := e.oB j a h
          exact ⟨⟨h3, fun z => hj (e.oi j i a h (by rw [z]; exact o1))⟩, h4, h5⟩
      · have h1 : (if j = i then none else own j) = some a := h1
        have h2 : (if k = i then none else own k) = some a := h2
        by_cases hj : j = i
        · rw [if_pos hj] at h1; cases h1
        · by_cases hk : k = i
          · rw [if_pos hk] at h2; cases h2
          · rw [if_neg hj] at h1; rw [if_neg hk] at h2; exact e.oi j k a h1 h2
/-- a new list of the frame's own -/
theorem Ev.newOwn {G : Gx} {W0 W : Wd} {H0 H : Hp} {S : Store} {σ : L2.St} {ρ : Env} {own : Nat → Option Addr} {i : Nat} {p : Addr} {vs : List V} {ds : List D} (e : Ev G W0 H0 W H S σ ρ own) (hp : H p = none) (r : RpA G W H vs ds) :
    ∃ own', Lw W H (W.add p) (upd H p (.lst vs)) ∧ Ev G W0 H0 (W.add p) (upd H p (.lst vs)) S (σ.set i (some (.ref p))) (ρ.set i (.own ds)) own' := by
  have l := le_add (o := .lst vs) (W := W) hp
  have lw := l.lw e.wk
  have e1 := e.mono l (ok_add e.wk hp) (st_add e.wk e.st hp)
  have nb := e.wk.free hp
  have z0 : Nw H0 p := fun o q t => by
    rcases e.le.kp p o q t with ⟨n, y⟩ | y
    · exact absurd (e.wk.rg n p (e.le.ph n p y)) nb
    · rw [hp] at y; cases y
  refine ⟨fun j => if j = i then some p else own j, lw, e1.w0, e1.wk, e1.le, e1.st, by simp [e1.len], fun j d h => ?_, fun j xs h => ?_, fun j a h => ?_, fun j k a h1 h2 => ?_⟩
  · by_cases hj : j = i
    · subst hj
      have hl : j < ρ.length := by
        have := (List.getElem?_eq_some_iff.mp h).1
        simpa using this
      rw [List.getElem?_set_self hl] at h
      cases h
    · rw [List.getElem?_set_ne (Ne.symm hj)] at h
      obtain ⟨v, h1, h2⟩ := e1.sl j d h
      exact ⟨v, by rw [List.getElem?_set_ne (Ne.symm hj)]; exact h1, h2⟩
  · by_cases hj : j = i
    · subst hj
      have hl : j < ρ.length := by
        have := (List.getElem?_eq_some_iff.mp h).1
        simpa using this
      rw [List.getElem?_set_self hl] at h
      cases h
      exact ⟨p, vs, if_pos rfl, List.getElem?_set_self (by rw [e1.len]; exact hl), upd_same, r.mono lw⟩
    · rw [List.getElem?_set_ne (Ne.symm hj)] at h
      obtain ⟨a, us, h3, h4, h5, h6⟩ := e1.so j xs h
      exact ⟨a, us, by show (if j = i then some p else own j) = some a; rw [if_neg hj]; exact h3, by rw [List.getElem?_set_ne (Ne.symm hj)]; exact h4, h5, h6⟩
  · have h : (if j = i then some p else own j) = some a := h
    by_cases hj : j = i
    · rw [if_pos hj] at h; cases h
      exact ⟨.inr rfl, z0, fun n q => nb (e.wk.rg n p q)⟩
    · rw [if_neg hj] at h; exact e1.oB j a h
  · have h1 : (if j = i then some p else own j) = some a := h1
    have h2 : (if k = i then some p else own k) = some a := h2
    by_cases hj : j = i
    · rw [if_pos hj] at h1; cases h1
      by_cases hk : k = i
      · rw [hj, hk]
      · rw [if_neg hk] at h2
        exact absurd (e.oB k p h2).1 nb
    · rw [if_neg hj] at h1
      by_cases hk : k = i
      · rw [if_pos hk] at h2; cases h2
        exact absurd (e.oB j p h1).1 nb
      · rw [if_neg hk] at h2; exact e.oi j k a h1 h2
/-- .. is changed -/
theorem Ev.putOwn {G : Gx} {W0 W : Wd} {H0 H : Hp} {S : Store} {σ : L2.St} {ρ : Env} {own : Nat → Option Addr} {i : Nat} {xs ds : List D} (e : Ev G W0 H0 W H S σ ρ own) (q : ρ[i]? = some (.own xs)) :
    ∃ p vs, σ[i]? = some (some (.ref p)) ∧ H p = some (.lst vs) ∧ RpA G W H vs xs ∧ ∀ us, RpA G W H us ds → Lw W H W (upd H p (.lst us)) ∧ Ev G W0 H0 W (upd H p (.lst us)) S σ (ρ.set i (.own ds)) own := by
  obtain ⟨p, vs, o1, h1, h2, r⟩ := e.so i xs q
  obtain ⟨hB, h0, hn⟩ := e.oB i p o1
  refine ⟨p, vs, h1, h2, r, fun us ru => ?_⟩
  have lw : Lw W H W (upd H p (.lst us)) := ⟨fun _ _ h => h, fun _ h => .inl h, fun b u h _ nb => by rw [upd_ne (fun z => nb (by rw [z]; exact hB))]; exact h⟩
  have hl : i < ρ.length := (List.getElem?_eq_some_iff.mp q).1
  refine ⟨lw, e.w0, ⟨fun a h => ?_, e.wk.rg, e.wk.ij⟩, ⟨e.le.ph, e.le.ps, e.le.Bm, e.le.Bn, fun b u h tu => ?_⟩, ⟨fun n c h => ?_, e.st.top, Tabs.put e.st.tb h2 (by intro _ z; cases z) code_lst⟩, by simp [e.len], fun j d h => ?_, fun j ys h => ?_, e.oB, e.oi⟩
  · by_cases z : a = p
    · exact ⟨_, by rw [z, upd_same], by intro _ z; cases z⟩
    · obtain ⟨u, y, tu⟩ := e.wk.tr a h
      exact ⟨u, by rw [upd_ne z]; exact y, tu⟩
  · rcases e.le.kp b u h tu with z | z
    · exact .inl z
    · refine .inr ?_
      rw [upd_ne (fun y => by rw [y] at h; exact h0.no h tu)]
      exact z
  · obtain ⟨a, h3, h4⟩ := e.st.at_ n c h
    exact ⟨a, h3, h4.same lw fun u y => by rw [upd_ne (fun z => hn n (by rw [← z]; exact h3))]; exact y⟩
  · have hj : j ≠ i := fun z => by
      subst z
      rw [List.getElem?_set_self hl] at h
      cases h
    rw [List.getElem?_set_ne (Ne.symm hj)] at h
    obtain ⟨v, h3, h4⟩ := e.sl j d h
    exact ⟨v, h3, h4.mono lw⟩
  · by_cases hj : j = i
    · subst hj
      rw [List.getElem?_set_self hl] at h
      cases h
      exact ⟨p, us, o1, h1, upd_same, ru.mono lw⟩
    · rw [List.getElem?_set_ne (Ne.symm hj)] at h
      obtain ⟨a, ws, h3, h4, h5, h6⟩ := e.so j ys h
      exact ⟨a, ws, h3, h4, by rw [upd_ne (fun z => hj (e.oi j i a h3 (by rw [z]; exact o1)))]; exact h5, h6.mono lw⟩
section
variable {X : Cx} {cl : Cls_} {E : WX} {e : Expr} {es : List Expr} {fe : Env → M D} {fs : Env → M (List D)} {gs : Sm} {sts : List Stmt} {pos tpos : Pos}
theorem dss_frz (i : Nat) (h : DSs X cl E sts gs) : DSs X cl E sts (cFrz i gs) := by
  refine pss_imp h fun Dn σ H ⟨W0, H0, W, S, ρ, own, ev, h⟩ => ?_
  obtain ⟨W', own', lw, e'⟩ := ev.freeze (i := i)
  exact ⟨W0, H0, W', S, _, own', e', PoS.step lw h⟩
theorem ds_setOwn (i : Nat) {x : Str} {pos' : Pos} (hN : X.N.Nodup) (hs : DA X cl E es fs) (hi : X.N[i]? = some x := by rfl) (hx : Loc X.env.scope x := by first | exact Or.inl rfl | exact Or.inr rfl) (hsw : swapsWith (.List es tpos) (some (.Name x pos')) pos.line X.env = pure false := by rfl) (hf : X.fn x = true ∨ X.env.scope.names.lookup x = some .local := by first | exact .inl rfl | exact .inr rfl) :
    DS X cl E (.Assign [.Name x pos'] (.List es tpos) pos) (cSetOwn i fs) := by
  refine ps_imp (ps_set (i := i) hN hi hx (pe_lst hs) hsw hf) fun Dn σ H ⟨W0, H0, W, S, ρ, own, ev, h⟩ => ?_
  refine ⟨W0, H0, W, S, ρ, own, ev, (PoS.onE ev h).imp fun ds S1 W1 H1 l1 w1 s1 h1 vs r => ?_⟩
  by_cases c : ds.length ≤ 16777216
  · rw [if_pos c] at h1
    refine ⟨by rw [r.length]; exact isline c, fun p hp => ?_⟩
    obtain ⟨own', lw, e'⟩ := (ev.mono l1 w1 s1).newOwn (i := i) hp r
    exact h1 _ _ _ _ lw e'
  · rw [if_neg c] at h1; exact h1.elim
theorem ds_app (i : Nat) (hp : PE X e (tBM X.K "list" rAppend (tVar i) (tCons (tE ⟨X.K, cl⟩ E fe) tNil))) (hs : swapsWith e none tpos.line X.env = pure false := by rfl) : DS X cl E (.Expr e tpos) (cApp i fe) := by
  refine ps_imp (ps_expr hp hs) fun Dn σ H ⟨W0, H0, W, S, ρ, own, ev, h⟩ => ?_
  have h : PoS ⟨X.K, cl⟩ E W0 H0 W H (cApp i fe ρ S) (wF ⟨X.K, cl⟩ Dn) := h
  unfold cApp at h
  cases q : ρ[i]? with
  | none => rw [q] at h; exact h.elim
  | some sl =>
    rw [q] at h
    cases sl with
    | un => exact h.elim
    | val d => exact h.elim
    | own xs =>
      obtain ⟨p, vs, o1, o2, o3, _⟩ := ev.putOwn (ds := xs) q
      refine ⟨.ref p, o1, .inl ⟨rfl, vs, SqL.of o2⟩, W0, H0, W, S, ρ, own, ev, (PoS.onE ev h).imp fun d S1 W1 H1 l1 w1 s1 h1 v rv => ?_⟩
      have e1 := ev.mono l1 w1 s1
      obtain ⟨p', us, o1', o4, o5, o6⟩ := e1.putOwn (ds := xs ++ [d]) q
      rw [o1] at o1'; cases o1'
      by_cases c : xs.length < 16777216
      · rw [if_pos c] at h1
        refine ⟨p, us, v, rfl, rfl, o4, by rw [o5.length, sizeLine_eq]; exact c, ?_⟩
        obtain ⟨lw, e2⟩ := o6 (us ++ [v]) (o5.app (.cons rv .nil))
        exact h1 _ _ _ _ lw e2
      · rw [if_neg c] at h1; exact h1.elim
end
end DN
/-! DN7: pairs of names at once, texts' methods, repr, {} and other small words; a def as a whole. -/
namespace DN
open PySem PySem.Spec PyProof.Rows L2

/-! ### a, b = x, y -/
def cPar (i j : Nat) (fs : Env → M (List D)) : Sm := fun ρ S => onE (fs ρ S) ρ fun ds S' => match ds with
  | [x, y] => .go .nx ((ρ.set i (.val x)).set j (.val y)) S'
  | _ => .bad
section
variable {X : Cx} {cl : Cls_} {E : WX} {a b e o : Expr} {fe fo : Env → M D} {fs : Env → M (List D)} {pos : Pos}
theorem ds_par (i j : Nat) {x y : Str} {px py pt : Pos} {kt k2 pt2} (hc : X.calm = true) (hN : X.N.Nodup) (ha : DA X cl E [a, b] fs) (hw : swappedStores [.Tuple [.Name x px, .Name y py] kt pt] (.Tuple [a, b] k2 pt2) X.env = pure (some [x, y]) := by rfl)
    (hi : X.N[i]? = some x := by rfl) (hj : X.N[j]? = some y := by rfl) (hij : i ≠ j := by decide) (hx : X.env.scope.names.lookup x = some .local := by rfl) (hy : X.env.scope.names.lookup y = some .local := by rfl)
    (hs : swapsWithSole [.Tuple [.Name x px, .Name y py] kt pt] (.Tuple [a, b] k2 pt2) pos.line X.env = pure false := by rfl) :
    DS X cl E (.Assign [.Tuple [.Name x px, .Name y py] kt pt] (.Tuple [a, b] k2 pt2) pos) (cPar i j fs) := by
  refine ps_imp (ps_par hc hN hi hj hij hx hy ha hw hs) fun Dn σ H ⟨W0, H0, W, S, ρ, own, ev, h⟩ => ?_
  refine ⟨W0, H0, W, S, ρ, own, ev, (PoS.onE ev h).imp fun ds S1 W1 H1 l1 w1 s1 h1 vs r => ?_⟩
  match ds, h1 with
  | [dx, dy], h1 =>
    obtain ⟨v, u, rfl, rv, ru⟩ := r.inv2
    exact ⟨v, u, rfl, h1 _ _ _ _ Lw.refl (((ev.mono l1 w1 s1).set rv).set ru)⟩

/-! ### texts -/
def strsD : List D → Option (List Str)
  | [] => some []
  | .str b :: ds => (strsD ds).map (b :: ·)
  | _ :: _ => none
theorem RpA.strs {G : Gx} {W : Wd} {H : Hp} : ∀ {ds : List D} {vs : List V} {bs : List Str}, RpA G W H vs ds → strsD ds = some bs → vs = bs.map V.str
  | [], _, _, .nil, e => by simp [strsD] at e; subst e; rfl
  | d :: ds, _, bs, .cons r t, e => by
    cases d with
    | str b =>
      simp only [strsD, Option.map_eq_some_iff] at e
      obtain ⟨bs', e1, e2⟩ := e
      subst e2
      cases r
      rw [RpA.strs t e1]; rfl
    | _ => simp [strsD] at e
def joinB (a : Str) (ys : List Str) : M D := if (ys.map (·.length)).sum + ys.length * a.length ≤ 16777216 then M.pure (.str (Txt.join a ys)) else M.bad
def gJoin (a : Str) : D → M D
  | .lst xs => match strsD xs with
    | some ys => joinB a ys
    | none => M.bad
  | .tup xs => match strsD xs with
    | some ys => joinB a ys
    | none => M.bad
  | _ => M.bad
/-- methods of a text -/
def cM0 (g : Str → M D) (fo : Env → M D) : Env → M D := fun ρ => do
  let x ← fo ρ
  match x with
  | .str a => g a
  | _ => M.bad
def cM1 (g : Str → D → M D) (fo fe : Env → M D) : Env → M D := fun ρ => do
  let x ← fo ρ
  match x with
  | .str a => do
    let y ← fe ρ
    g a y
  | _ => M.bad
theorem tM1_of {G : Gx} {r : V → List V → Hp → VK → Prop} {g : Str → D → M D} {σ : L2.St} {H : Hp} {Q : VK} (h : tE G E (cM1 g fo fe) σ H Q)
    (hg : ∀ W H S a y dy, WOk W H → StOk G W H S → Rp G W H y dy → Po G E σ W H (g a dy S) (RV G Q) → r (.str a) [y] H Q) : tM1 r (tE G E fo) (tE G E fe) σ H Q := by
  obtain ⟨W0, H0, W, S, ρ, own, ev, h⟩ := h
  refine ⟨W0, H0, W, S, ρ, own, ev, (Po.bind ev.wk h).imp fun da S1 W1 H1 l1 w1 s1 h1 v rv => ?_⟩
  cases da with
  | str a =>
    cases rv
    exact ⟨⟨a, rfl⟩, W0, H0, W1, S1, ρ, own, ev.mono l1 w1 s1, (Po.bind w1 h1).imp fun db S2 W2 H2 l2 w2 s2 h2 u ru => hg W2 H2 S2 a u db w2 s2 ru h2⟩
  | _ => exact h1.elim
theorem tM0_of {G : Gx} {r : V → List V → Hp → VK → Prop} {g : Str → M D} {σ : L2.St} {H : Hp} {Q : VK} (h : tE G E (cM0 g fo) σ H Q)
    (hg : ∀ W H S a, WOk W H → StOk G W H S → Po G E σ W H (g a S) (RV G Q) → r (.str a) [] H Q) : tM0 r (tE G E fo) σ H Q := by
  refine tE_bind h fun W0 H0 W1 H1 S1 ρ own v d ev rv hh => ?_
  cases d with
  | str a => cases rv; exact ⟨⟨a, rfl⟩, hg W1 H1 S1 a ev.wk ev.st hh⟩
  | _ => exact hh.elim
theorem de_join {apos : Pos} (ho : DE X cl E o fo) (he : DE X cl E e fe) (hs : starEach [e] X.env = [(false, eval e X.env)] := by rfl) (hbase : attributeBase o "join" X.env (eval o X.env) = eval o X.env := by rfl) (hline : (apos.endLine == pos.line) = true := by rfl) :
    DE X cl E (.Call (.Attribute o "join" apos) [e] [] pos) (cM1 gJoin fo fe) := by
  refine pe_imp (pe_join ho he hs hbase hline) fun σ H Q h => tM1_of (G := ⟨X.K, cl⟩) h fun W2 H2 S2 a u db w2 s2 ru h2 => ?_
  cases db with
  | lst xs =>
    unfold gJoin at h2
    dsimp only at h2
    cases q : strsD xs with
    | none => rw [q] at h2; exact h2.elim
    | some ys =>
      rw [q] at h2
      obtain ⟨c, h2⟩ := po_if h2
      cases ru with
      | lst hl _ rl =>
        have e := rl.strs q
        subst e
        exact ⟨a, _, ys, rfl, rfl, .inl (SqL.of hl), c, Po.val w2 s2 h2 (.str _)⟩
  | tup xs =>
    unfold gJoin at h2
    dsimp only at h2
    cases q : strsD xs with
    | none => rw [q] at h2; exact h2.elim
    | some ys =>
      rw [q] at h2
      obtain ⟨c, h2⟩ := po_if h2
      cases ru with
      | tup hl rl =>
        have e := rl.strs q
        subst e
        exact ⟨a, _, ys, rfl, rfl, .inr hl.sq, c, Po.val w2 s2 h2 (.str _)⟩
  | _ => exact h2.elim
def gUpper (a : Str) : M D := if a.length ≤ 5592405 then M.pure (.str (Txt.upper a)) else M.bad
theorem de_upper {apos : Pos} (ho : DE X cl E o fo) (hbase : attributeBase o "upper" X.env (eval o X.env) = eval o X.env := by rfl) (hline : (apos.endLine == pos.line) = true := by rfl) : DE X cl E (.Call (.Attribute o "upper" apos) [] [] pos) (cM0 gUpper fo) :=
  pe_imp (pe_upper ho hbase hline) fun σ H Q h => tM0_of (G := ⟨X.K, cl⟩) h fun W H S a w s h => by
    obtain ⟨c, h⟩ := po_if h
    exact ⟨a, rfl, rfl, c, Po.val w s h (.str _)⟩
end

/-! ### repr of scalars -/
def gRepr : List D → M D
  | [.bl b] => M.pure (.str (if b then "True" else "False"))
  | [.non] => M.pure (.str "None")
  | [.int i] => if i.natAbs.log2 < 1920 then M.pure (.str (toString i)) else M.bad
  | _ => M.bad
section
variable {X : Cx} {cl : Cls_} {K : PySem.W.Frag}
def rRepr : List V → Hp → VK → Prop := fun xs H Q => (∃ b, xs = [.bl b] ∧ Q (.str (if b then "True" else "False")) H) ∨ (xs = [.non] ∧ Q (.str "None") H) ∨ ∃ i, xs = [.int i] ∧ i.natAbs.log2 < 1920 ∧ Q (.str (toString i)) H
theorem call_repr : CallR X (.builtin "repr") rRepr := by
  rintro pins s σ H xs us Q I r (⟨b, rfl, q⟩ | ⟨rfl, q⟩ | ⟨i, rfl, hz, q⟩)
  · obtain ⟨u, rfl, r1⟩ := vals1 r
    cases r1
    exact PySem.P.repr_of_bool ⟨.str _, H, I.tok _, ⟨_, rfl⟩, q⟩
  · obtain ⟨u, rfl, r1⟩ := vals1 r
    cases r1
    exact PySem.P.repr_of_none ⟨.str _, H, I.tok _, ⟨_, rfl⟩, q⟩
  · obtain ⟨u, rfl, t, rfl⟩ := vals1 r
    exact PySem.P.repr_of_int hz ⟨.str _, H, I.tok _, ⟨_, rfl⟩, q⟩
theorem cd_repr : CallD K cl rRepr gRepr := by
  intro E σ W H S vs ds Q w s r h
  match ds, h with
  | [.bl b], h =>
    obtain ⟨v, rfl, rv⟩ := r.inv1
    cases rv
    exact .inl ⟨b, rfl, Po.val w s h (.str _)⟩
  | [.non], h =>
    obtain ⟨v, rfl, rv⟩ := r.inv1
    cases rv
    exact .inr (.inl ⟨rfl, Po.val w s h (.str _)⟩)
  | [.int i], h =>
    obtain ⟨v, rfl, rv⟩ := r.inv1
    cases rv
    obtain ⟨c, h⟩ := po_if h
    exact .inr (.inr ⟨i, rfl, c, Po.val w s h (.str _)⟩)
/-! ### {} -/
theorem de_dnew {E : WX} {pos : Pos} : DE X cl E (.Dict [] [] pos) (cC (.dct [])) := by
  refine pe_imp pe_dnewK fun σ H Q ⟨W0, H0, W, S, ρ, own, ev, h⟩ p hp => ?_
  exact Po.new ev.wk ev.st h hp (.dct upd_same (ev.wk.free hp) .nil)
end

/-! ### a def as a whole -/
/-- the def x of the module, as the statement st, with the parameters ps -/
structure Fd (K : PySem.W.Frag) (mg : Str → Option Value) (x qual : Str) (st : Stmt) (ps : List Str) : Prop where
  ex : ∃ f fd, Fun K x qual st f fd ∧ mg x = some (.ref f) ∧ PySem.W.keepIn K (.ref f) = true ∧ Binds K fd ps []
/-- the def x of the module is worth F -/
structure Cal (P : Program) (w : World) (K : PySem.W.Frag) (mg : Str → Option Value) (base : Heap) (cl : Cls_) (x : Str) (k : Nat) (ps : List Str) (F : List D → M D) : Prop where
  ex : ∃ f fd, FnD P w K mg base cl k f fd ps F ∧ mg x = some (.ref f) ∧ PySem.W.keepIn K (.ref f) = true ∧ Binds K fd ps []
section
variable {P : Program} {w : World} {K : PySem.W.Frag} {mg : Str → Option Value} {base : Heap} {cl : Cls_}
theorem Fd.cal {x qual : Str} {st : Stmt} {N ps : List Str} {k : Nat} {body : Sm} (F : Fd K mg x qual st ps) (S : FnScope N ps (defScope st))
    (hb : ∀ (f : Addr) (cdv : Value) (A : Around) (outer : List PySem.Env) (s : Shared) (H : Hp) (E : XK), Room k (A.deeper (envOfC qual (defScope st) s.heap.objs.size f cdv)) → DSs (cxD P w K mg base N qual st f cdv A outer s H E) cl (fun c d _ H => E c d H) (defBody st) body) :
    Cal P w K mg base cl x (k + 1) ps (runF ps.length N.length body) := by
  obtain ⟨f, fd, F, m, kp, b⟩ := F.ex
  exact ⟨f, fd, fn_D F S fun cdv A outer s H E hr => hb f cdv A outer s H E hr, m, kp, b⟩
/-- .. by another word for it -/
theorem Cal.imp {x : Str} {k : Nat} {ps : List Str} {F F' : List D → M D} (C : Cal P w K mg base cl x k ps F) (h : ∀ ds S, ds.length = ps.length → F' ds S ≠ .bad → F ds S = F' ds S) : Cal P w K mg base cl x k ps F' := by
  obtain ⟨f, fd, G, m, kp, b⟩ := C.ex
  refine ⟨f, fd, G.imp fun vs H Q E ⟨W, S, ds, w0, s0, r, e, q⟩ => ⟨W, S, ds, w0, s0, r, e, ?_⟩, m, kp, b⟩
  rw [h ds S e (fun z => by rw [z] at q; exact q)]
  exact q
theorem de_cal {X : Cx} {cl : Cls_} {E : WX} {k n : Nat} {ps : List Str} {x : Str} {p pos : Pos} {e : Expr} {es : List Expr} {fs : Env → M (List D)} {F : List D → M D} (C : Cal X.prog X.w X.K X.mg X.base cl x k ps F) (hr : Room k X.A) (tk : Takes X E) (ha : DA X cl E (e :: es) fs) (hn : ps.length = n := by rfl) (hg : Gl X x := by rfl) (hdb : (x == ("__debug__" : Str)) = false := by decide)
    (he : starEach (e :: es) X.env = (false, eval e X.env) :: starEach es X.env := by rfl) (hpl : (backTo pos (starEach es X.env)).any (·.1) = false := by rfl) : DE X cl E (.Call (.Name x p) (e :: es) [] pos) (cCall n F fs) := by
  obtain ⟨f, fd, G, m, kp, b⟩ := C.ex
  subst hn
  exact de_call G hr m kp b tk ha hg hdb he hpl
end
end DN
/-! DN8: the end of a law row. -/
namespace DN
open PySem PySem.Spec PyProof.Rows L2

theorem law_sp {K : PySem.W.Frag} {cl : Cls_} {F : List D → M D} {n : Nat} (noT : cl.T = []) (main : ∀ ns : List Int, ns.length ≤ n → ∃ S', F [.scr ns] [] = .ok (.bl true) S') {H : Hp} {a : Addr} {ns : List Int} (hl : ns.length ≤ n) (hS : SqL K H a (ns.map V.int)) :
    spD ⟨K, cl⟩ 1 F [.ref a] H (fun v _ => v = .bl true) fun _ _ _ => False := by
  obtain ⟨S', e⟩ := main ns hl
  refine ⟨⟨fun _ => none, fun _ => False⟩, [], [.scr ns], ⟨fun _ h => h.elim, fun _ _ h => (nomatch h), fun _ _ _ h => (nomatch h)⟩, ⟨fun _ _ h => (nomatch h), fun _ _ => rfl, fun p hp => by rw [show (Gx.mk K cl).cl.T = [] from noT] at hp; cases hp⟩, .cons (.scr ?_) .nil, rfl, ?_⟩
  · rcases hS with h | h
    · exact .inl ⟨h, fun z => z⟩
    · exact .inr h
  · rw [e]
    intro W' H' l w s v rv
    cases rv; rfl
theorem no_cx {P : Program} {w : World} {H : Hp} {s : Shared} {e : Value} {s' : Shared} (h : L2.CX P w [] H s (fun _ _ _ => False) e s') : False := by
  obtain ⟨_, _, _, _, _, _, _, _, _, _, _, _, z⟩ := h
  exact z
theorem walk_D {l : PySem.W.OpenLaw} {n k : Nat} {q : Program} {loose : List Str} {XP : (Str → Option Value) → Heap → Prop} {YP : World → Heap → Prop} {d : DefRec} {K : Params → PySem.W.Frag} {cl : PySem.W.Frag → Cls_} {F : List D → M D} (hn : l.most = some n) (hn2 : n ≤ sizeLine) (hdf : d.params.defaults = []) (hr : Room k callerA)
    (noT : ∀ K, (cl K).T = []) (hY : ∀ (w : World) (h : Heap), YP w h → (K w.params).In h) (main : ∀ ns : List Int, ns.length ≤ n → ∃ S', F [.scr ns] [] = .ok (.bl true) S')
    (FF : ∀ (w : World) (mg : Str → Option Value) (fa : Addr) (h : Heap), (K w.params).In h → h.Ns mainGlobals mg → mg d.name = some (.ref fa) →
      ∃ fd : FuncData, (∀ (s : Shared) (u : Value), BindsTo s fd ⟨[u], []⟩ [("script", u)]) ∧ ∀ base : Heap, (K w.params).In base → base.Ns mainGlobals mg → FnD l.prog w (K w.params) mg base (cl (K w.params)) k fa fd ["script"] F) :
    PySem.W.WalkO q loose XP YP l.row.toRowW d [] (fun f vs => PySem.call f vs) :=
  L2.walk_of (n := n) (k := k) (x := "script") (K := K) (CX := fun w => L2.CX l.prog w) (sp := fun w => spD ⟨K w.params, cl (K w.params)⟩ 1 F) hn hn2 hdf hr hY FF (fun w H a ns hl hO hS => law_sp (noT _) main hl hS) fun w H s e s' h => no_cx h
/-- the classes by their names in the module -/
def clN (K : PySem.W.Frag) : Str → Option Addr := fun c => match PySem.W.nsIn K mainGlobals c with
  | some (some (.ref a)) => some a
  | _ => none
def clK (K : PySem.W.Frag) : Cls_ := ⟨clN K, []⟩
end DN
/-! DR: what is not looked at (bad), turned sequences, pairs with a list of one's own. -/
namespace DN
open PySem PySem.Spec PyProof.Rows L2
def cBad {α : Type} : Env → M α := fun _ => M.bad
def cBadS : Sm := fun _ _ => .bad
section
variable {X : Cx} {cl : Cls_} {E : WX} {e : Expr} {st : Stmt}
theorem de_bad : DE X cl E e cBad := ⟨fun _ _ _ _ _ _ ⟨_, _, _, _, _, _, _, h⟩ => h.elim⟩
theorem ds_bad : DS X cl E st cBadS := ⟨fun _ _ _ _ _ _ ⟨_, _, _, _, _, _, _, h⟩ => h.elim⟩
end

/-! ### t[::-1] -/
section
open PySem.Builtin.Slice
theorem rv_adjust (n : Nat) : sliceAdjust none none (-1) (n : Int) = ((n : Int) - 1, -1) := by
  unfold sliceAdjust
  rfl
theorem rv_places (n : Nat) : slicePlaces ((n : Int) - 1) (-1) (-1) = n := by
  unfold slicePlaces
  have a : ¬ (-1 : Int) > 0 := by omega
  rw [if_neg a]
  by_cases hn : n = 0
  · subst hn; rfl
  · have b : ((n : Int) - 1) > -1 := by omega
    rw [if_pos b, show (- -1 : Int) = 1 by decide, Int.ediv_one]
    omega
theorem fm_congr {α β : Type} {f g : α → Option β} : ∀ {xs : List α}, (∀ x ∈ xs, f x = g x) → xs.filterMap f = xs.filterMap g
  | [], _ => rfl
  | x :: xs, h => by
    have a := h x List.mem_cons_self
    have b := fm_congr (xs := xs) fun y hy => h y (List.mem_cons_of_mem _ hy)
    rw [List.filterMap_cons, List.filterMap_cons, a, b]
theorem rv_list (xs : Array Value) : ((List.range xs.size).filterMap fun (m : Nat) => xs[(((xs.size : Nat) : Int) - 1 + (m : Int) * -1).toNat]?) = xs.toList.reverse := by
  have e : ((List.range xs.size).filterMap fun (m : Nat) => xs[(((xs.size : Nat) : Int) - 1 + (m : Int) * -1).toNat]?) = (List.range xs.toList.reverse.toArray.size).filterMap fun m => xs.toList.reverse.toArray[m]? := by
    have f : xs.toList.reverse.toArray.size = xs.size := by simp
    rw [f]
    refine fm_congr fun m hm => ?_
    have hm := List.mem_range.mp hm
    have q : (((xs.size : Nat) : Int) - 1 + (m : Int) * -1).toNat = xs.toList.length - 1 - m := by rw [Array.length_toList]; omega
    rw [q, ← Array.getElem?_toList]
    have g : xs.toList.reverse.toArray[m]? = xs.toList.reverse[m]? := by simp
    rw [g, List.getElem?_reverse (by rw [Array.length_toList]; exact hm)]
  rw [e, PySem.W.krv_all]
variable {prog : Program} {w : World} {A : Around} {XE : Value → Shared → Prop} {s : Shared}
theorem rv_applied {sl : Addr} {vs : Value} {n : Nat} {Q : Int × Int × Nat → Shared → Prop} (hs : s.heap.IsSliceOf sl .none .none vs) (ps : IsPart vs (some (-1))) (h : Q ((n : Int) - 1, -1, n) s) :
    wpAny (model prog w) A (sliceApplied (.ref sl) (pure (n : Int))) Q XE s := by
  obtain ⟨o, ho, hc, hd⟩ := id hs
  unfold sliceApplied sliceFields
  refine wpAny_bind (wpAny_bind (wpAny_field ho hd (x := .none) rfl ?_))
  refine wpAny_bind (wpAny_field ho hd (x := .none) rfl (wpAny_bind (wpAny_field ho hd (x := vs) rfl (wpAny_pure ?_))))
  refine wpAny_bind (HT.slicePart_ ps ?_)
  show wpAny _ _ (if ((-1 : Int) == 0) = true then _ else _) _ _ s
  rw [if_neg (by decide)]
  refine wpAny_bind (HT.slicePart_ .none ?_)
  refine wpAny_bind (HT.slicePart_ .none ?_)
  refine wpAny_bind (wpAny_pure ?_)
  show wpAny _ _ (match sliceAdjust none none (-1) (n : Int) with | (lo, hi) => pure (lo, (-1 : Int), slicePlaces lo hi (-1))) _ _ s
  rw [rv_adjust]
  show wpAny _ _ (pure ((n : Int) - 1, (-1 : Int), slicePlaces ((n : Int) - 1) (-1) (-1))) _ _ s
  rw [rv_places]
  exact wpAny_pure h
theorem rv_tuple {t sl : Addr} {items : Array Value} {vs : Value} {Q : Value → Shared → Prop} (ht : IsTup s.heap t items) (hs : s.heap.IsSliceOf sl .none .none vs) (ps : IsPart vs (some (-1)))
    (h : Q (.ref s.heap.objs.size) { s with heap := s.heap.push { cls := .type "tuple", data := .seq items.toList.reverse.toArray } }) (hsz : items.size ≤ sizeLine) : wpAny (model prog w) A (getItem (.ref t) (.ref sl)) Q XE s := by
  have fit : sizeOk (.seq items.toList.reverse.toArray) := by
    show items.toList.reverse.toArray.size ≤ sizeLine
    rw [List.size_toArray, List.length_reverse, Array.length_toList]
    exact hsz
  obtain ⟨o, ho, hc, hd⟩ := id hs
  have hT : s.TypeIs (.ref sl) "slice" := ⟨o, ho, hc⟩
  unfold getItem
  try with_reducible refine wpAny_holding ?_
  first | refine wpAny_bind (wpAny_pure ?_) | skip
  refine wpAny_bind (wpAny_sequenceKey ht.typeIs (by decide) ?_)
  refine wpAny_bind (wpAny_callSpecial?_slot (name := Str.ofString "__getitem__") ht.typeIs PyProof.Rows.slot_tuple_getitem (wpAny_call_entry PyProof.Rows.slot_tuple_getitem ht.typeIs entry_tuple_getitem ?_ (args_tuple_getitem _ _)))
  show wpAny _ _ (Builtin.Tuple.tupleItemsOf (.ref t) >>= _) _ _ s
  refine wpAny_bind (tupleItemsOf_ ht (wpAny_bind (wpAny_typeOf hT ?_)))
  rw [if_pos (by decide)]
  refine wpAny_bind (rv_applied hs ps ?_)
  have no : ¬ ((((items.size : Nat) : Int) - 1 == 0 && (-1 : Int) == 1 && items.size == items.size) = true) := by
    intro q
    rw [Bool.and_eq_true, Bool.and_eq_true] at q
    have := q.1.2
    revert this
    decide
  show wpAny _ _ (if (((items.size : Nat) : Int) - 1 == 0 && (-1 : Int) == 1 && items.size == items.size) = true then _ else _) _ _ s
  rw [if_neg no, rv_list]
  first
    | exact wpAny_bind (m := Builtin.Tuple.tupleExact _) (wpAny_newObj_type (wpAny_pure ⟨_, rfl, wpAny_pure h⟩) fit)
    | exact wpAny_bind (m := Builtin.Tuple.tupleExact _) (wpAny_newObj_type (wpAny_bind (wpAny_pure (wpAny_pure ⟨_, rfl, wpAny_pure h⟩))) fit)
    | exact wpAny_bind (wpAny_bind (m := Builtin.Tuple.tupleExact _) (wpAny_newObj_type (wpAny_pure (wpAny_pure ⟨_, rfl, wpAny_pure h⟩)) fit))
    | exact wpAny_bind (wpAny_bind (m := Builtin.Tuple.tupleExact _) (wpAny_newObj_type (wpAny_pure ⟨_, rfl, wpAny_pure h⟩) fit))
end
def tRevT (K : PySem.W.Frag) (te : TE) : TE := fun σ H Q => te σ H fun x H1 => ∃ a xs, x = .ref a ∧ ((SqL K H1 a xs ∧ ∀ p, H1 p = none → Q (.ref p) (upd H1 p (.lst xs.reverse))) ∨ (SqT K H1 a xs ∧ ∀ p, H1 p = none → Q (.ref p) (upd H1 p (.tup xs.reverse))))
section
variable {X : Cx}
theorem pe_revA {e : Expr} {te : TE} {k : Nat} {p1 p2 p3 pos : Pos} (he : PE X e te) : PE X (.Subscript e (.Slice none none (some (.UnaryOp .USub (.Constant (.int 1) k p1) p2)) p3) pos) (tRevT X.K te) := by
  refine ⟨fun pins s σ H Q I h => Subscript_ (thn (he.run pins s σ H _ I h) fun v s1 ⟨x, H1, I1, r1, a, xs, ex, q⟩ => ?_)⟩
  subst ex
  cases r1
  have hst : PO X (some (.UnaryOp .USub (.Constant (.int 1) k p1) p2)) (tPart (tUn (rU fun i => .int (-i)) (tC (.int 1)))) := po_some (pe_un un_neg pe_int)
  refine wpAny_Slice (thn (po_none.run pins s1 σ H1 (fun o K2 => o = none ∧ K2 = H1) I1 ⟨rfl, rfl⟩) fun vl s2 ⟨l, H2, I2, pl, el, e2⟩ => ?_)
  subst el e2
  refine thn (po_none.run pins s2 σ H2 (fun o K3 => o = none ∧ K3 = H2) I2 ⟨rfl, rfl⟩) fun vu s3 ⟨u, H3, I3, pu, eu, e3⟩ => ?_
  subst eu e3
  refine thn (hst.run pins s3 σ H3 (fun o K4 => o = some (-1) ∧ K4 = H3) I3 ⟨1, rfl, -1, rfl, rfl, rfl⟩) fun vs s4 ⟨o, H4, I4, ps, eo, e4⟩ => ?_
  subst eo e4
  have I5 : Inv X pins σ H4 { s4 with heap := s4.heap.push { cls := .type "slice", data := .fields #[vl, vu, vs] } } := I4.kept (t' := s4.toks) fun b ob q => Heap.get?_push_of_some _ q
  show wpAny (model X.prog X.w) X.A (subscriptTail e (.Slice none none (some (.UnaryOp .USub (.Constant (.int 1) k p1) p2)) p3) (.ref a) (.ref s4.heap.objs.size)) (EP X pins σ Q) X.xe { s4 with heap := s4.heap.push { cls := .type "slice", data := .fields #[vl, vu, vs] } }
  rcases q with ⟨hx, q⟩ | ⟨hx, q⟩
  · obtain ⟨its, r, ht, hz⟩ := I5.list hx
    have hlen := r.length
    refine tail_any (ops := [.ref a, .ref s4.heap.objs.size]) ht.isList.typeIs (PySem.slot_list_getitem.lookup) ?_ (by with_unfolding_all rfl)
    refine wpAny_getItem_list_slice ht.isList (Heap.IsSliceOf.new _ vl vu vs) pl pu ps (by decide) ?_ (by rw [List.size_toArray]; omega)
    rw [PySem.W.krv_pick]
    refine ⟨.ref _, _, I5.laid (t' := s4.toks) (o := .lst xs.reverse) (fun b ob z => Heap.get?_push_of_some _ z) (Nat.le_refl _) ?_, rfl, q _ (I5.hok.fresh (Nat.le_refl _))⟩
    exact ⟨by rw [List.length_reverse]; exact hz, _, 0, r.reverse, Heap.get?_push_size _ rfl⟩
  · obtain ⟨its, r, ht, hz⟩ := I5.tuple hx
    have hlen := r.length
    refine tail_any (ops := [.ref a, .ref s4.heap.objs.size]) ht.typeIs (PyProof.Rows.slot_tuple_getitem.lookup) ?_ (by with_unfolding_all rfl)
    cases pl
    cases pu
    refine rv_tuple ht (Heap.IsSliceOf.new _ .none .none vs) ps ?_ (by rw [List.size_toArray]; omega)
    refine ⟨.ref _, _, I5.laid (t' := s4.toks) (o := .tup xs.reverse) (fun b ob z => Heap.get?_push_of_some _ z) (Nat.le_refl _) ?_, rfl, q _ (I5.hok.fresh (Nat.le_refl _))⟩
    exact ⟨by rw [List.length_reverse]; exact hz, _, r.reverse, IsTup.new _ _⟩
end
def gRev : D → M D
  | .tup xs => M.pure (.tup xs.reverse)
  | .lst xs => M.pure (.lst xs.reverse)
  | _ => M.bad
section
variable {X : Cx} {cl : Cls_} {E : WX} {a : Expr} {fa : Env → M D}
theorem de_rev {k : Nat} {p1 p2 p3 pos : Pos} (ha : DE X cl E a fa) : DE X cl E (.Subscript a (.Slice none none (some (.UnaryOp .USub (.Constant (.int 1) k p1) p2)) p3) pos) (c1 gRev fa) := by
  refine pe_imp (pe_revA ha) fun σ H Q h => ?_
  refine tE_bind h fun W0 H0 W1 H1 S1 ρ own x dx ev rx h1 => ?_
  cases dx with
  | tup xs =>
    cases rx with
    | @tup p vs _ hp rp => exact ⟨p, vs, rfl, .inr ⟨hp.sq, fun q hq => Po.new ev.wk ev.st h1 hq (Rp.newTup ev.wk hq rp.rev)⟩⟩
  | lst xs =>
    cases rx with
    | @lst p vs _ hp _ rp => exact ⟨p, vs, rfl, .inl ⟨.inl (.inl hp), fun q hq => Po.new ev.wk ev.st h1 hq (Rp.newLst ev.wk hq rp.rev)⟩⟩
  | _ => exact h1.elim
end

/-! ### a, b = [..], e : a is a list of one's own -/
theorem Ev.ownAt {G : Gx} {W0 W : Wd} {H0 H : Hp} {S : Store} {σ : L2.St} {ρ : Env} {own : Nat → Option Addr} {i : Nat} {p : Addr} {vs : List V} {ds : List D} (e : Ev G W0 H0 W H S σ ρ own)
    (hB : W.B p) (z0 : Nw H0 p) (hn : ∀ n, W.phi n ≠ some p) (ho : ∀ j, own j ≠ some p) (hH : H p = some (.lst vs)) (r : RpA G W H vs ds) :
    Ev G W0 H0 W H S (σ.set i (some (.ref p))) (ρ.set i (.own ds)) (fun j => if j = i then some p else own j) := by
  refine ⟨e.w0, e.wk, e.le, e.st, by simp [e.len], fun j d h => ?_, fun j xs h => ?_, fun j a h => ?_, fun j k a h1 h2 => ?_⟩
  · by_cases hj : j = i
    · subst hj
      have hl : j < ρ.length := by have := (List.getElem?_eq_some_iff.mp h).1; simpa using this
      rw [List.getElem?_set_self hl] at h
      cases h
    · rw [List.getElem?_set_ne (Ne.symm hj)] at h ⊢
      exact e.sl j d h
  · by_cases hj : j = i
    · subst hj
      have hl : j < ρ.length := by have := (List.getElem?_eq_some_iff.mp h).1; simpa using this
      rw [List.getElem?_set_self hl] at h
      cases h
      exact ⟨p, vs, if_pos rfl, List.getElem?_set_self (by rw [e.len]; exact hl), hH, r⟩
    · rw [List.getElem?_set_ne (Ne.symm hj)] at h
      obtain ⟨a, us, h3, h4, h5, h6⟩ := e.so j xs h
      exact ⟨a, us, (if_neg hj).trans h3, by rw [List.getElem?_set_ne (Ne.symm hj)]; exact h4, h5, h6⟩
  · have h : (if j = i then some p else own j) = some a := h
    by_cases hj : j = i
    · rw [if_pos hj] at h
      cases h
      exact ⟨hB, z0, hn⟩
    · rw [if_neg hj] at h
      exact e.oB j a h
  · have h1 : (if j = i then some p else own j) = some a := h1
    have h2 : (if k = i then some p else own k) = some a := h2
    by_cases hj : j = i <;> by_cases hk : k = i
    · rw [hj, hk]
    · rw [if_pos hj] at h1; rw [if_neg hk] at h2; cases h1; exact absurd h2 (ho k)
    · rw [if_neg hj] at h1; rw [if_pos hk] at h2; cases h2; exact absurd h1 (ho j)
    · rw [if_neg hj] at h1; rw [if_neg hk] at h2; exact e.oi j k a h1 h2
def cParO (i j : Nat) (fs : Env → M (List D)) (fe : Env → M D) : Sm := fun ρ S => onE (fs ρ S) ρ fun ds S1 => if ds.length ≤ 16777216 then onE (fe ρ S1) ρ fun d S2 => .go .nx ((ρ.set i (.own ds)).set j (.val d)) S2 else .bad
section
variable {X : Cx} {cl : Cls_} {E : WX} {es : List Expr} {b : Expr} {fs : Env → M (List D)} {fe : Env → M D} {pos : Pos}
theorem ds_parO (i j : Nat) {x y : Str} {px py pt lp : Pos} {kt k2 pt2} (hc : X.calm = true) (hN : X.N.Nodup) (hs : DA X cl E es fs) (he : DE X cl E b fe) (hw : swappedStores [.Tuple [.Name x px, .Name y py] kt pt] (.Tuple [.List es lp, b] k2 pt2) X.env = pure (some [x, y]) := by rfl)
    (hi : X.N[i]? = some x := by rfl) (hj : X.N[j]? = some y := by rfl) (hij : i ≠ j := by decide) (hx : X.env.scope.names.lookup x = some .local := by rfl) (hy : X.env.scope.names.lookup y = some .local := by rfl)
    (hss : swapsWithSole [.Tuple [.Name x px, .Name y py] kt pt] (.Tuple [.List es lp, b] k2 pt2) pos.line X.env = pure false := by rfl) (s1 : starEach [.List es lp, b] X.env = (false, eval (.List es lp) X.env) :: starEach [b] X.env := by rfl) (s2 : starEach [b] X.env = (false, eval b X.env) :: starEach [] X.env := by rfl) :
    DS X cl E (.Assign [.Tuple [.Name x px, .Name y py] kt pt] (.Tuple [.List es lp, b] k2 pt2) pos) (cParO i j fs fe) := by
  refine ps_imp (ps_par hc hN hi hj hij hx hy (pa_cons (pe_lst hs) (pa_cons he pa_nil s2) s1) hw hss) fun Dn σ H ⟨W0, H0, W, S, ρ, own, ev, h⟩ => ?_
  refine ⟨W0, H0, W, S, ρ, own, ev, (PoS.onE ev h).imp fun ds S1 W1 H1 l1 w1 s1 h1 vs r => ?_⟩
  by_cases c : ds.length ≤ 16777216
  · rw [if_pos c] at h1
    refine ⟨by rw [r.length]; exact isline c, fun p hp => ?_⟩
    have ev1 := ev.mono l1 w1 s1
    have lp := le_add (o := .lst vs) (W := W1) hp
    have ev2 := ev1.mono lp (ok_add w1 hp) (st_add w1 s1 hp)
    have nb := w1.free hp
    refine ⟨W0, H0, W1.add p, S1, ρ, own, ev2, (PoS.onE ev2 (PoS.step (lp.lw w1) h1)).imp fun d S2 W2 H2 l2 w2 s2 h2 v rv => ⟨.ref p, v, rfl, ?_⟩⟩
    have hn : ∀ n, W2.phi n ≠ some p := fun n q => by
      rcases l2.ps n p q with z | z
      · exact nb (w1.rg n p z)
      · exact z.no upd_same
    have hH : H2 p = some (.lst vs) := by
      rcases l2.kp p _ upd_same with ⟨n, z⟩ | z
      · exact absurd (w1.rg n p z) nb
      · exact z
    have z0 : Nw H0 p := fun o q t => by
      rcases ev1.le.kp p o q t with ⟨n, y⟩ | y
      · exact absurd (w1.rg n p (ev1.le.ph n p y)) nb
      · rw [hp] at y; cases y
    have ho : ∀ j, own j ≠ some p := fun j q => nb (ev1.oB j p q).1
    have ev3 := (ev2.mono l2 w2 s2).ownAt (i := i) (l2.Bm p (.inr rfl)) z0 hn ho hH ((r.mono (lp.lw w1)).mono (l2.lw ev2.wk))
    exact h2 _ _ _ _ Lw.refl (ev3.set rv)
  · rw [if_neg c] at h1; exact h1.elim
end

/-! ### lists of different lengths are not equal, whatever they hold -/
def eqX (x y : D) : Option Bool := match eqD x y with
  | some b => some b
  | none => match x, y with
    | .lst xs, .lst ys => if xs.length = ys.length then none else some false
    | _, _ => none
def gEqX (x y : D) : M D := match eqX x y with
  | some b => M.pure (.bl b)
  | none => M.bad
def gNeX (x y : D) : M D := match eqX x y with
  | some b => M.pure (.bl (!b))
  | none => M.bad
def rEqX (K : PySem.W.Frag) : R2 := fun x y H Q => rEqD K x y H Q ∨ ∃ l b xs zs, x = .ref l ∧ y = .ref b ∧ H l = some (.lst xs) ∧ H b = some (.lst zs) ∧ xs.length ≠ zs.length ∧ Q (.bl false) H
section
variable {X : Cx}
theorem op_eqX (hu : X.A.units + 64 < cLine) : OpR X (compareOp .Eq) (rEqX X.K) := by
  refine (op_eqD hu).or ?_
  intro pins s σ H x y v u Q I rx ry ⟨l, b, xs, zs, ex, ey, hH, hB, hz, q⟩
  subst ex ey
  cases rx
  cases ry
  obtain ⟨z, its, n, r, hl, e⟩ := I.lstM hH
  obtain ⟨z2, its2, n2, r2, hl2, e2⟩ := I.lstM hB
  have k1 := r.length
  have k2 := r2.length
  refine PySem.P.eq_list_lengths e e2 ?_ (by omega) ⟨.bl false, H, I, rfl, q⟩
  rw [List.size_toArray, List.size_toArray]
  exact bne_iff_ne.mpr (by omega)
end
theorem od_eqX {K : PySem.W.Frag} {cl : Cls_} : OpD K cl (rEqX K) gEqX := by
  intro E σ W H S x y dx dy Q w s rx ry h
  unfold gEqX eqX at h
  cases q1 : eqD dx dy with
  | some b =>
    rw [q1] at h
    refine .inl (od_eq E σ W H S x y dx dy Q w s rx ry ?_)
    unfold gEq
    rw [q1]
    exact h
  | none =>
    rw [q1] at h
    cases dx with
    | lst xs =>
      cases dy with
      | lst ys =>
        dsimp only at h
        by_cases c : xs.length = ys.length
        · rw [if_pos c] at h; exact h.elim
        · rw [if_neg c] at h
          cases rx with
          | @lst a vs _ ha _ ra =>
            cases ry with
            | @lst b us _ hb _ rb =>
              exact .inr ⟨a, b, vs, us, rfl, rfl, ha, hb, by rw [ra.length, rb.length]; exact c, Po.val w s h (.bl _)⟩
      | _ => exact h.elim
    | _ => exact h.elim

/-- a list made in place for a name that an inner block sees -/
theorem sw_cell {elt : Expr} {gs : List Comprehension} {scope : Scope} {pos py : Pos} {y : Str} {l : Nat} {env : PySem.Env} (hy : env.scope.names.lookup y = some .cell) : swapsWith (.ListComp elt gs scope pos) (some (.Name y py)) l env = pure false := by
  have ky : env.kindOf y = some .cell := hy
  have no : ((some NameKind.cell : Option NameKind) == some NameKind.local) = false := by decide
  unfold swapsWith
  simp only [ky, no, Bool.and_false, Bool.false_and]
end DN
/-! DM: a logic of the combinators: what holds of results, under a word about the store. -/
namespace DN
open PySem PySem.Spec PyProof.Rows L2

abbrev XP := Str → List (Str × D) → Prop
abbrev X0 : XP := fun _ _ => False
/-- from each store under I: a result with P, or an exception with X, and I again -/
structure Wp {α : Type} (I : Store → Prop) (m : M α) (P : α → Prop) (X : XP := X0) : Prop where
  at_ : ∀ S, I S → match m S with
  | .ok a S' => P a ∧ I S'
  | .exc c fs S' => X c fs ∧ I S'
  | .bad => False
/-- .. of statements -/
structure Ws (I : Store → Prop) (m : Store → RS) (P : Fl → Env → Prop) (X : XP := X0) : Prop where
  at_ : ∀ S, I S → match m S with
  | .go f ρ S' => P f ρ ∧ I S'
  | .exc c fs _ S' => X c fs ∧ I S'
  | .bad => False
section
variable {α β : Type} {I : Store → Prop} {X : XP}
theorem Wp.pure {a : α} {P : α → Prop} (h : P a) : Wp I (M.pure a) P X := Wp.mk fun S i => ⟨h, i⟩
theorem Wp.ret {a : α} {P : α → Prop} (h : P a) : Wp I (Pure.pure a) P X := Wp.mk fun S i => ⟨h, i⟩
theorem Wp.bind {m : M α} {k : α → M β} {P : β → Prop} (h : Wp I m (fun a => Wp I (k a) P X) X) : Wp I (m >>= k) P X := Wp.mk fun S i => by
  have h1 := h.at_ S i
  rw [bind_run]
  cases q : m S with
  | ok a S' => rw [q] at h1; exact h1.1.at_ S' h1.2
  | exc c fs S' => rw [q] at h1; exact h1
  | bad => rw [q] at h1; exact h1
theorem Wp.imp {m : M α} {P P' : α → Prop} {X' : XP} (h : Wp I m P X) (i : ∀ a, P a → P' a) (ix : ∀ c fs, X c fs → X' c fs) : Wp I m P' X' := Wp.mk fun S s => by
  have h1 := h.at_ S s
  cases q : m S with
  | ok a S' => rw [q] at h1; exact ⟨i _ h1.1, h1.2⟩
  | exc c fs S' => rw [q] at h1; exact ⟨ix _ _ h1.1, h1.2⟩
  | bad => rw [q] at h1; exact h1
theorem Wp.mono {m : M α} {P P' : α → Prop} (h : Wp I m P X0) (i : ∀ a, P a → P' a) : Wp I m P' X := h.imp i fun _ _ z => z.elim
/-- a run -/
theorem Wp.run {m : M α} {P : α → Prop} {S : Store} (h : Wp I m P X0) (i : I S) : ∃ a S', m S = .ok a S' ∧ P a ∧ I S' := by
  have h1 := h.at_ S i
  cases q : m S with
  | ok a S' => rw [q] at h1; exact ⟨a, S', rfl, h1⟩
  | exc c fs S' => rw [q] at h1; exact h1.1.elim
  | bad => rw [q] at h1; exact h1.elim
theorem Wp.if_ {c : Prop} [Decidable c] {m n : M α} {P : α → Prop} (h1 : c → Wp I m P X) (h2 : ¬ c → Wp I n P X) : Wp I (if c then m else n) P X := by
  by_cases hc : c
  · rw [if_pos hc]; exact h1 hc
  · rw [if_neg hc]; exact h2 hc
theorem Wp.chk {c : Prop} [Decidable c] {m : M α} {P : α → Prop} (hc : c) (h1 : Wp I m P X) : Wp I (if c then m else M.bad) P X := by rw [if_pos hc]; exact h1
variable {ρ : Env} {P : D → Prop} {PB : Bool → Prop} {PL : List D → Prop} {fa fb fc : Env → M D} {fs : Env → M (List D)} {ta tb : Env → M Bool}
theorem w_var {i : Nat} {d : D} (e : ρ[i]? = some (.val d)) (h : P d) : Wp I (cVar i ρ) P X := Wp.mk fun S s => by unfold cVar; rw [e]; exact ⟨h, s⟩
theorem w_c {d : D} (h : P d) : Wp I (cC d ρ) P X := Wp.mk fun S s => ⟨h, s⟩
theorem w_c2 {g : D → D → M D} (h : Wp I (fa ρ) (fun x => Wp I (fb ρ) (fun y => Wp I (g x y) P X) X) X) : Wp I (c2 g fa fb ρ) P X := Wp.bind (h.imp (fun _ h => Wp.bind h) fun _ _ x => x)
theorem w_c1 {g : D → M D} (h : Wp I (fa ρ) (fun x => Wp I (g x) P X) X) : Wp I (c1 g fa ρ) P X := Wp.bind h
theorem w_cA {g : List D → M D} (h : Wp I (fs ρ) (fun x => Wp I (g x) P X) X) : Wp I (cA g fs ρ) P X := Wp.bind h
theorem w_nil (h : PL []) : Wp I (cNil ρ) PL X := Wp.pure h
theorem w_cons (h : Wp I (fa ρ) (fun x => Wp I (fs ρ) (fun xs => PL (x :: xs)) X) X) : Wp I (cCons fa fs ρ) PL X := Wp.bind (h.imp (fun _ h => Wp.bind (h.imp (fun _ h => Wp.pure h) fun _ _ x => x)) fun _ _ x => x)
theorem w_call {n : Nat} {F : List D → M D} (h : Wp I (fs ρ) (fun ds => ds.length = n ∧ Wp I (F ds) P X) X) : Wp I (cCall n F fs ρ) P X := Wp.bind (h.imp (fun _ ⟨e, h⟩ => Wp.chk e h) fun _ _ x => x)
theorem w_b (h : Wp I (fa ρ) (fun d => ∃ k, d = .bl k ∧ PB k) X) : Wp I (cB fa ρ) PB X := Wp.bind (h.imp (fun _ ⟨k, e, h⟩ => by subst e; exact Wp.pure h) fun _ _ x => x)
theorem w_notB (h : Wp I (ta ρ) (fun k => PB (!k)) X) : Wp I (cNotB ta ρ) PB X := Wp.bind (h.imp (fun _ h => Wp.pure h) fun _ _ x => x)
theorem w_andB (h : Wp I (ta ρ) (fun k => (k = true → Wp I (tb ρ) PB X) ∧ (k = false → PB false)) X) : Wp I (cAndB ta tb ρ) PB X :=
  Wp.bind (h.imp (fun k ⟨h1, h2⟩ => by cases k with | true => exact h1 rfl | false => exact Wp.pure (h2 rfl)) fun _ _ x => x)
theorem w_orB (h : Wp I (ta ρ) (fun k => (k = false → Wp I (tb ρ) PB X) ∧ (k = true → PB true)) X) : Wp I (cOrB ta tb ρ) PB X :=
  Wp.bind (h.imp (fun k ⟨h1, h2⟩ => by cases k with | true => exact Wp.pure (h2 rfl) | false => exact h1 rfl) fun _ _ x => x)
theorem w_andV (h : Wp I (fa ρ) (fun d => ∃ k, d = .bl k ∧ (k = true → Wp I (fb ρ) P X) ∧ (k = false → P (.bl false))) X) : Wp I (cAndV fa fb ρ) P X :=
  Wp.bind (h.imp (fun d ⟨k, e, h1, h2⟩ => by subst e; cases k with | true => exact h1 rfl | false => exact Wp.pure (h2 rfl)) fun _ _ x => x)
theorem w_orV (h : Wp I (fa ρ) (fun d => ∃ k, d = .bl k ∧ (k = false → Wp I (fb ρ) P X) ∧ (k = true → P (.bl true))) X) : Wp I (cOrV fa fb ρ) P X :=
  Wp.bind (h.imp (fun d ⟨k, e, h1, h2⟩ => by subst e; cases k with | true => exact Wp.pure (h2 rfl) | false => exact h1 rfl) fun _ _ x => x)
theorem w_if (h : Wp I (ta ρ) (fun k => (k = true → Wp I (fa ρ) P X) ∧ (k = false → Wp I (fb ρ) P X)) X) : Wp I (cIf ta fa fb ρ) P X :=
  Wp.bind (h.imp (fun k ⟨h1, h2⟩ => by cases k with | true => exact h1 rfl | false => exact h2 rfl) fun _ _ x => x)
theorem w_chain {g1 g2 : D → D → M D} (h : Wp I (fa ρ) (fun x => Wp I (fb ρ) (fun y => Wp I (g1 x y) (fun d => ∃ k, d = .bl k ∧ (k = true → Wp I (fc ρ) (fun z => Wp I (g2 y z) P X) X) ∧ (k = false → P (.bl false))) X) X) X) : Wp I (cChain g1 g2 fa fb fc ρ) P X :=
  Wp.bind (h.imp (fun x h => Wp.bind (h.imp (fun y h => Wp.bind (h.imp (fun d ⟨k, e, h1, h2⟩ => by subst e; cases k with | true => exact Wp.bind (h1 rfl) | false => exact Wp.pure (h2 rfl)) fun _ _ x => x)) fun _ _ x => x)) fun _ _ x => x)
theorem w_it (h : Wp I (fa ρ) (fun d => Wp I (itemsD d) PL X) X) : Wp I (cIt fa ρ) PL X := Wp.bind h
theorem w_rng1 (h : Wp I (fa ρ) (fun d => Wp I (rng1 d) PL X) X) : Wp I (cRng1 fa ρ) PL X := Wp.bind h
theorem w_rng2 (h : Wp I (fa ρ) (fun x => Wp I (fb ρ) (fun y => Wp I (rng2 x y) PL X) X) X) : Wp I (cRng2 fa fb ρ) PL X := Wp.bind (h.imp (fun _ h => Wp.bind h) fun _ _ x => x)
theorem w_zip (h : Wp I (fa ρ) (fun x => Wp I (fb ρ) (fun y => Wp I (gZip x y) PL X) X) X) : Wp I (cZip fa fb ρ) PL X := Wp.bind (h.imp (fun _ h => Wp.bind h) fun _ _ x => x)
theorem w_enum (h : Wp I (fa ρ) (fun x => Wp I (gEnum x) PL X) X) : Wp I (cEnum fa ρ) PL X := Wp.bind h
theorem w_m0 {g : Str → M D} (h : Wp I (fa ρ) (fun d => ∃ a, d = .str a ∧ Wp I (g a) P X) X) : Wp I (cM0 g fa ρ) P X := Wp.bind (h.imp (fun d ⟨a, e, h⟩ => by subst e; exact h) fun _ _ x => x)
theorem w_m1 {g : Str → D → M D} (h : Wp I (fa ρ) (fun d => ∃ a, d = .str a ∧ Wp I (fb ρ) (fun y => Wp I (g a y) P X) X) X) : Wp I (cM1 g fa fb ρ) P X := Wp.bind (h.imp (fun d ⟨a, e, h⟩ => by subst e; exact Wp.bind h) fun _ _ x => x)
theorem w_part {PO : Option Int → Prop} (h : Wp I (fa ρ) (fun d => ∃ i, d = .int i ∧ PO (some i)) X) : Wp I (cPart fa ρ) PO X := Wp.bind (h.imp (fun d ⟨i, e, h⟩ => by subst e; exact Wp.pure h) fun _ _ x => x)
theorem w_noP {PO : Option Int → Prop} (h : PO none) : Wp I (cNoP ρ) PO X := Wp.pure h
theorem w_sl {fl fh : Env → M (Option Int)} (h : Wp I (fa ρ) (fun x => Wp I (fl ρ) (fun lo => Wp I (fh ρ) (fun hi => Wp I (gSl x lo hi) P X) X) X) X) : Wp I (cSl fa fl fh ρ) P X :=
  Wp.bind (h.imp (fun _ h => Wp.bind (h.imp (fun _ h => Wp.bind h) fun _ _ x => x)) fun _ _ x => x)
/-! comprehensions -/
theorem w_noX {m : M α} {Q : α → Prop} (h : Wp I m Q X0) : Wp I (noX m) Q X := Wp.mk fun S s => by
  have h1 := h.at_ S s
  unfold noX
  cases q : m S with
  | ok a S' => rw [q] at h1; exact h1
  | exc c fs S' => rw [q] at h1; exact h1.1.elim
  | bad => rw [q] at h1; exact h1
/-- each item gives nothing or something under R; the results in order -/
inductive Got_ (R : D → Option D → Prop) : List D → List D → Prop where
  | nil : Got_ R [] []
  | skip {d : D} {ds ys : List D} : R d none → Got_ R ds ys → Got_ R (d :: ds) ys
  | take {d y : D} {ds ys : List D} : R d (some y) → Got_ R ds ys → Got_ R (d :: ds) (y :: ys)
theorem w_compL {b : Bd} {t : Env → M Bool} {f : Env → M D} {R : D → Option D → Prop} : ∀ {ds : List D}, (∀ d ∈ ds, ∃ ρ', b d ρ = some ρ' ∧ Wp I (t ρ') (fun k => (k = true → Wp I (f ρ') (fun y => R d (some y)) X0) ∧ (k = false → R d none)) X0) → Wp I (compL b t f ρ ds) (Got_ R ds) X0
  | [], _ => Wp.pure .nil
  | d :: ds, h => by
    obtain ⟨ρ', e, h1⟩ := h d List.mem_cons_self
    have ih := w_compL (ds := ds) fun x hx => h x (List.mem_cons_of_mem _ hx)
    unfold compL
    rw [e]
    refine Wp.bind (h1.imp (fun k ⟨k1, k0⟩ => ?_) fun _ _ x => x)
    cases k with
    | true => exact Wp.bind ((k1 rfl).imp (fun y hy => Wp.bind (ih.imp (fun ys hys => Wp.pure (.take hy hys)) fun _ _ x => x)) fun _ _ x => x)
    | false => exact ih.imp (fun ys hys => .skip (k0 rfl) hys) fun _ _ x => x
theorem w_comp {fi : Env → M (List D)} {b : Bd} {t : Env → M Bool} {f : Env → M D} {vs : List Nat} (R : D → Option D → Prop) (h : Wp I (fi ρ) (fun ds => ds.length ≤ 16777216 ∧
      (∀ d ∈ ds, ∃ ρ', b d (wipeE ρ vs) = some ρ' ∧ Wp I (t ρ') (fun k => (k = true → Wp I (f ρ') (fun y => R d (some y)) X0) ∧ (k = false → R d none)) X0) ∧ ∀ ys, Got_ R ds ys → P (.lst ys)) X) : Wp I (cComp fi b t f vs ρ) P X :=
  Wp.bind (h.imp (fun ds ⟨c, h1, h2⟩ => Wp.chk c (Wp.bind ((w_noX (w_compL h1)).imp (fun ys hys => Wp.pure (h2 ys hys)) fun _ _ x => x))) fun _ _ x => x)
theorem w_yes {Q : Bool → Prop} (h : Q true) : Wp I (cYes ρ) Q X := Wp.pure h
theorem Got_.map {g : D → D} : ∀ {ds ys : List D}, Got_ (fun d o => o = some (g d)) ds ys → ys = ds.map g
  | _, _, .nil => rfl
  | _, _, .skip h _ => by cases h
  | _, _, .take h t => by cases h; rw [List.map_cons, Got_.map t]
theorem Got_.filterMap {g : D → Option D} : ∀ {ds ys : List D}, Got_ (fun d o => o = g d) ds ys → ys = ds.filterMap g
  | _, _, .nil => rfl
  | _, _, .skip h t => by rw [List.filterMap_cons_none h.symm, Got_.filterMap t]
  | _, _, .take h t => by rw [List.filterMap_cons_some h.symm, Got_.filterMap t]
theorem Got_.all {Q : D → Prop} : ∀ {ds ys : List D}, Got_ (fun _ o => ∃ y, o = some y ∧ Q y) ds ys → ys.length = ds.length ∧ ∀ y ∈ ys, Q y
  | _, _, .nil => ⟨rfl, fun _ h => by cases h⟩
  | _, _, .skip h _ => by obtain ⟨_, h, _⟩ := h; cases h
  | _, _, .take h t => by
    obtain ⟨y, e, q⟩ := h
    cases e
    obtain ⟨l, a⟩ := Got_.all t
    refine ⟨by rw [List.length_cons, List.length_cons, l], fun z hz => ?_⟩
    rcases List.mem_cons.mp hz with rfl | hz
    · exact q
    · exact a z hz
/-! statements -/
variable {PS : Fl → Env → Prop} {f g : Sm}
theorem Ws.imp {m : Store → RS} {Q Q' : Fl → Env → Prop} {X' : XP} (h : Ws I m Q X) (i : ∀ a b, Q a b → Q' a b) (ix : ∀ c fs, X c fs → X' c fs) : Ws I m Q' X' := Ws.mk fun S s => by
  have h1 := h.at_ S s
  cases q : m S with
  | go a r S' => rw [q] at h1; exact ⟨i _ _ h1.1, h1.2⟩
  | exc c fs r S' => rw [q] at h1; exact ⟨ix _ _ h1.1, h1.2⟩
  | bad => rw [q] at h1; exact h1
theorem ws_onE {m : M α} {k : α → Store → RS} (h : Wp I m (fun a => Ws I (k a) PS X) X) : Ws I (fun S => onE (m S) ρ k) PS X := Ws.mk fun S s => by
  have h1 := h.at_ S s
  show match onE (m S) ρ k with | .go f ρ S' => PS f ρ ∧ I S' | .exc c fs _ S' => X c fs ∧ I S' | .bad => False
  cases q : m S with
  | ok a S' => rw [q] at h1; exact h1.1.at_ S' h1.2
  | exc c fs S' => rw [q] at h1; exact h1
  | bad => rw [q] at h1; exact h1
theorem ws_go {fl : Fl} (h : PS fl ρ) : Ws I (fun S => .go fl ρ S) PS X := Ws.mk fun S s => ⟨h, s⟩
theorem ws_asg {b : Bd} (h : Wp I (fa ρ) (fun d => ∃ ρ', b d ρ = some ρ' ∧ PS .nx ρ') X) : Ws I (cAsg fa b ρ) PS X := by
  refine ws_onE (h.imp (fun d ⟨ρ', e, h⟩ => ?_) fun _ _ x => x)
  simp only [e]
  exact ws_go h
theorem ws_ret (h : Wp I (fa ρ) (fun d => PS (.rt d) ρ) X) : Ws I (cRet fa ρ) PS X := ws_onE (h.imp (fun d h => ws_go h) fun _ _ x => x)
theorem ws_drop (h : Wp I (fa ρ) (fun _ => PS .nx ρ) X) : Ws I (cDrop fa ρ) PS X := ws_onE (h.imp (fun d h => ws_go h) fun _ _ x => x)
theorem ws_if (h : Wp I (ta ρ) (fun k => (k = true → Ws I (f ρ) PS X) ∧ (k = false → Ws I (g ρ) PS X)) X) : Ws I (cIfS ta f g ρ) PS X := by
  refine ws_onE (h.imp (fun k ⟨h1, h2⟩ => ?_) fun _ _ x => x)
  cases k with
  | true => exact h1 rfl
  | false => exact h2 rfl
theorem ws_next (h : PS .nx ρ) : Ws I (cNext ρ) PS X := ws_go h
theorem ws_brk (h : PS .bk ρ) : Ws I (cBrk ρ) PS X := ws_go h
theorem ws_cont (h : PS .ct ρ) : Ws I (cCont ρ) PS X := ws_go h
theorem ws_retN (h : PS (.rt .non) ρ) : Ws I (cRetN ρ) PS X := ws_go h
theorem ws_seq (h : Ws I (f ρ) (fun fl ρ' => (fl = .nx → Ws I (g ρ') PS X) ∧ (fl ≠ .nx → PS fl ρ')) X) : Ws I (cSeq f g ρ) PS X := Ws.mk fun S s => by
  have h1 := h.at_ S s
  unfold cSeq
  cases q : f ρ S with
  | go fl r S' =>
    rw [q] at h1
    cases fl with
    | nx => exact (h1.1.1 rfl).at_ S' h1.2
    | rt d => exact ⟨h1.1.2 (by intro z; cases z), h1.2⟩
    | bk => exact ⟨h1.1.2 (by intro z; cases z), h1.2⟩
    | ct => exact ⟨h1.1.2 (by intro z; cases z), h1.2⟩
  | exc c fs r S' => rw [q] at h1; exact h1
  | bad => rw [q] at h1; exact h1
theorem ws_par {i j : Nat} (h : Wp I (fs ρ) (fun ds => ∃ x y, ds = [x, y] ∧ PS .nx ((ρ.set i (.val x)).set j (.val y))) X) : Ws I (cPar i j fs ρ) PS X :=
  ws_onE (h.imp (fun ds ⟨x, y, e, h⟩ => by subst e; exact ws_go h) fun _ _ x => x)
theorem ws_frz {i : Nat} (h : Ws I (f (frzE i ρ)) PS X) : Ws I (cFrz i f ρ) PS X := h
theorem ws_setOwn {i : Nat} (h : Wp I (fs ρ) (fun ds => ds.length ≤ 16777216 ∧ PS .nx (ρ.set i (.own ds))) X) : Ws I (cSetOwn i fs ρ) PS X := by
  refine ws_onE (h.imp (fun ds ⟨c, h⟩ => ?_) fun _ _ x => x)
  simp only [if_pos c]
  exact ws_go h
theorem ws_app {i : Nat} {xs : List D} (e : ρ[i]? = some (.own xs)) (hl : xs.length < 16777216) (h : Wp I (fa ρ) (fun d => PS .nx (ρ.set i (.own (xs ++ [d])))) X) : Ws I (cApp i fa ρ) PS X := by
  show Ws I (fun S => cApp i fa ρ S) PS X
  unfold cApp
  simp only [e]
  refine ws_onE (h.imp (fun d h => ?_) fun _ _ x => x)
  simp only [if_pos hl]
  exact ws_go h
/-- a loop by its word, over what is left -/
theorem ws_forL {b : Bd} {body : Sm} (J : List D → Env → Prop) (turn : ∀ d ds ρ, J (d :: ds) ρ → ∃ ρ1, b d ρ = some ρ1 ∧ Ws I (body ρ1) (fun fl ρ2 => match fl with
      | .nx => J ds ρ2
      | .ct => J ds ρ2
      | .bk => PS .nx ρ2
      | .rt d => PS (.rt d) ρ2) X) (last : ∀ ρ, J [] ρ → PS .nx ρ) : ∀ (ds : List D) (ρ : Env), J ds ρ → Ws I (forL b body ds ρ) PS X
  | [], ρ, h => ws_go (last ρ h)
  | d :: ds, ρ, h => Ws.mk fun S s => by
    obtain ⟨ρ1, e, h1⟩ := turn d ds ρ h
    have ih := ws_forL J turn last ds
    have h1 := h1.at_ S s
    unfold forL
    rw [e]
    dsimp only
    cases q : body ρ1 S with
    | go fl r S' =>
      rw [q] at h1
      cases fl with
      | nx => exact (ih r h1.1).at_ S' h1.2
      | ct => exact (ih r h1.1).at_ S' h1.2
      | bk => exact h1
      | rt d => exact h1
    | exc c fs r S' => rw [q] at h1; exact h1
    | bad => rw [q] at h1; exact h1
theorem ws_for {fi : Env → M (List D)} {b : Bd} {body : Sm} (h : Wp I (fi ρ) (fun ds => Ws I (forL b body ds ρ) PS X) X) : Ws I (cFor fi b body ρ) PS X := ws_onE h
/-- a def -/
theorem w_def {n m : Nat} {body : Sm} {ds : List D} (e : ds.length = n) (h : Ws I (body (ds.map Sl.val ++ List.replicate (m - n) Sl.un)) (fun fl _ => match fl with
    | .rt d => P d
    | .nx => P .non
    | _ => False) X) : Wp I (runF n m body ds) P X := Wp.mk fun S s => by
  have h1 := h.at_ S s
  unfold runF
  rw [if_pos e]
  cases q : body (ds.map Sl.val ++ List.replicate (m - n) Sl.un) S with
  | go fl r S' =>
    rw [q] at h1
    cases fl with
    | nx => exact h1
    | rt d => exact h1
    | bk => exact h1.1.elim
    | ct => exact h1.1.elim
  | exc c fs r S' => rw [q] at h1; exact h1
  | bad => rw [q] at h1; exact h1
end

/-! ### the die -/
def IsDie (n : Nat) (S : Store) : Prop := ∃ a b c : Int, S[n]? = some (.lst [.int a, .int b, .int c])
section
variable {n : Nat} {X : XP}
theorem w_dieAt {k : Int} {P : D → Prop} (hk : k = 0 ∨ k = 1 ∨ k = 2) (h : ∀ i : Int, P (.int i)) : Wp (IsDie n) (gIx (.mut n) (.int k)) P X := Wp.mk fun S ⟨a, b, c, e⟩ => by
  have e' : S[n]? = some (.lst [.int a, .int b, .int c]) := e
  unfold gIx
  dsimp only
  rw [e']
  rcases hk with rfl | rfl | rfl
  · exact ⟨h a, a, b, c, e⟩
  · exact ⟨h b, a, b, c, e⟩
  · exact ⟨h c, a, b, c, e⟩
theorem w_dieSet {k v : Int} {P : Unit → Prop} (hk : k = 0 ∨ k = 1 ∨ k = 2) (h : P ()) : Wp (IsDie n) (gSetI (.mut n) (.int k) (.int v)) P X := Wp.mk fun S ⟨a, b, c, e⟩ => by
  have e' : S[n]? = some (.lst [.int a, .int b, .int c]) := e
  have hn : n < S.length := (List.getElem?_eq_some_iff.mp e).1
  unfold gSetI
  dsimp only
  rw [e']
  rcases hk with rfl | rfl | rfl
  · exact ⟨h, v, b, c, List.getElem?_set_self hn⟩
  · exact ⟨h, a, v, c, List.getElem?_set_self hn⟩
  · exact ⟨h, a, b, v, List.getElem?_set_self hn⟩
theorem ws_setI {ρ : Env} {I : Store → Prop} {PS : Fl → Env → Prop} {fe fo fi : Env → M D} (h : Wp I (fe ρ) (fun v => Wp I (fo ρ) (fun o => Wp I (fi ρ) (fun i => Wp I (gSetI o i v) (fun _ => PS .nx ρ) X) X) X) X) : Ws I (cSetI fe fo fi ρ) PS X :=
  ws_onE (h.imp (fun v h => ws_onE (h.imp (fun o h => ws_onE (h.imp (fun i h => ws_onE (h.imp (fun _ h => ws_go h) fun _ _ x => x)) fun _ _ x => x)) fun _ _ x => x)) fun _ _ x => x)
end
end DN
/-! DG: the leaves: what an operation answers. -/
namespace DN
open PySem PySem.Spec PyProof.Rows L2 TL
section
variable {I : Store → Prop} {X : XP} {P : D → Prop} {PL : List D → Prop}
theorem wg_eqm {α : Type} {m : M α} {a : α} {Q : α → Prop} (e : m = M.pure a) (h : Q a) : Wp I m Q X := by rw [e]; exact Wp.pure h
theorem wg_add {i j : Int} (h : P (.int (i + j))) : Wp I (gAdd (.int i) (.int j)) P X := Wp.pure h
theorem wg_addS {a b : Str} (hl : a.length + b.length ≤ 16777216) (h : P (.str (a ++ b))) : Wp I (gAdd (.str a) (.str b)) P X := Wp.chk hl (Wp.pure h)
theorem wg_addL {a b : List D} (hl : a.length + b.length ≤ 16777216) (h : P (.lst (a ++ b))) : Wp I (gAdd (.lst a) (.lst b)) P X := Wp.chk hl (Wp.pure h)
theorem wg_addT {a b : List D} (hl : a.length + b.length ≤ 16777216) (h : P (.tup (a ++ b))) : Wp I (gAdd (.tup a) (.tup b)) P X := Wp.chk hl (Wp.pure h)
theorem wg_sub {i j : Int} (h : P (.int (i - j))) : Wp I (gSub (.int i) (.int j)) P X := Wp.pure h
theorem wg_mul {i j : Int} (hl : (-(2 ^ 64) < i ∧ i < 2 ^ 64) ∨ (-(2 ^ 64) < j ∧ j < 2 ^ 64)) (h : P (.int (i * j))) : Wp I (gMul (.int i) (.int j)) P X := Wp.chk hl (Wp.pure h)
theorem wg_mod {i j : Int} (hl : 0 < j) (h : P (.int (i % j))) : Wp I (gMod (.int i) (.int j)) P X := Wp.chk hl (Wp.pure h)
theorem wg_fdiv {i j : Int} (hl : 0 < j ∧ j < 1073741824) (h : P (.int (i / j))) : Wp I (gFdiv (.int i) (.int j)) P X := Wp.chk hl (Wp.pure h)
theorem wg_pow {i j : Int} (hl : 0 ≤ j ∧ (Builtin.Int.intBits i : Int) * j ≤ 134217728) (h : P (.int (i ^ j.toNat))) : Wp I (gPow (.int i) (.int j)) P X := Wp.chk hl (Wp.pure h)
theorem wg_neg {i : Int} (h : P (.int (-i))) : Wp I (gNeg (.int i)) P X := Wp.pure h
theorem wg_lt {i j : Int} (h : P (.bl (decide (i < j)))) : Wp I (gLt (.int i) (.int j)) P X := Wp.pure h
theorem wg_le {i j : Int} (h : P (.bl (decide (i ≤ j)))) : Wp I (gLe (.int i) (.int j)) P X := Wp.pure h
theorem wg_gt {i j : Int} (h : P (.bl (decide (j < i)))) : Wp I (gGt (.int i) (.int j)) P X := Wp.pure h
theorem wg_ge {i j : Int} (h : P (.bl (decide (j ≤ i)))) : Wp I (gGe (.int i) (.int j)) P X := Wp.pure h
theorem wg_eq {x y : D} {b : Bool} (e : eqD x y = some b) (h : P (.bl b)) : Wp I (gEq x y) P X := wg_eqm (by unfold gEq; rw [e]) h
theorem wg_ne {x y : D} {b : Bool} (e : eqD x y = some b) (h : P (.bl (!b))) : Wp I (gNe x y) P X := wg_eqm (by unfold gNe; rw [e]) h
theorem wg_in {x y : D} {b : Bool} (e : inD x y = some b) (h : P (.bl b)) : Wp I (gIn x y) P X := wg_eqm (by unfold gIn; rw [e]) h
theorem wg_notin {x y : D} {b : Bool} (e : inD x y = some b) (h : P (.bl (!b))) : Wp I (gNotIn x y) P X := wg_eqm (by unfold gNotIn; rw [e]) h
theorem wg_eqX {x y : D} {b : Bool} (e : eqX x y = some b) (h : P (.bl b)) : Wp I (gEqX x y) P X := wg_eqm (by unfold gEqX; rw [e]) h
theorem wg_not {b : Bool} (h : P (.bl (!b))) : Wp I (gNot (.bl b)) P X := Wp.pure h
theorem wg_ixL {xs : List D} {i : Int} {d : D} (e : atI xs i = some d) (h : P d) : Wp I (gIx (.lst xs) (.int i)) P X := wg_eqm (by unfold gIx; dsimp only; rw [e]; rfl) h
theorem wg_ixT {xs : List D} {i : Int} {d : D} (e : atI xs i = some d) (h : P d) : Wp I (gIx (.tup xs) (.int i)) P X := wg_eqm (by unfold gIx; dsimp only; rw [e]; rfl) h
theorem wg_ixC {xs : List Int} {i : Int} {d : Int} (e : atI xs i = some d) (h : P (.int d)) : Wp I (gIx (.scr xs) (.int i)) P X := wg_eqm (by unfold gIx; dsimp only; rw [e]; rfl) h
theorem wg_ixS {z : Str} {i : Int} {c : Nat} (hz : z.length ≤ 16777216) (e : atI z.cps.toList i = some c) (h : P (.str ⟨#[c]⟩)) : Wp I (gIx (.str z) (.int i)) P X := wg_eqm (by unfold gIx; dsimp only; rw [if_pos hz, e]; rfl) h
theorem wg_lenL {xs : List D} (h : P (.int xs.length)) : Wp I (gLen [.lst xs]) P X := Wp.pure h
theorem wg_lenT {xs : List D} (h : P (.int xs.length)) : Wp I (gLen [.tup xs]) P X := Wp.pure h
theorem wg_lenC {xs : List Int} (h : P (.int xs.length)) : Wp I (gLen [.scr xs]) P X := Wp.pure h
theorem wg_lenS {z : Str} (hz : z.length ≤ 16777216) (h : P (.int z.length)) : Wp I (gLen [.str z]) P X := Wp.chk hz (Wp.pure h)
theorem wg_int {i : Int} (h : P (.int i)) : Wp I (gInt [.int i]) P X := Wp.pure h
theorem wg_intB {b : Bool} (h : P (.int (if b then 1 else 0))) : Wp I (gInt [.bl b]) P X := Wp.pure h
theorem wg_abs {i : Int} (h : P (.int (if i < 0 then -i else i))) : Wp I (gAbs [.int i]) P X := Wp.pure h
theorem wg_max2 {i j : Int} (h : P (.int (if j > i then j else i))) : Wp I (gMax2 [.int i, .int j]) P X := Wp.pure h
theorem wg_min2 {i j : Int} (h : P (.int (if j < i then j else i))) : Wp I (gMin2 [.int i, .int j]) P X := Wp.pure h
theorem wg_tup {xs : List D} (hl : xs.length ≤ 16777216) (h : P (.tup xs)) : Wp I (gTup xs) P X := Wp.chk hl (Wp.pure h)
theorem wg_lst {xs : List D} (hl : xs.length ≤ 16777216) (h : P (.lst xs)) : Wp I (gLst xs) P X := Wp.chk hl (Wp.pure h)
theorem wg_isi {T t : String} {d : D} (e : tyD d = some t) (h : P (.bl (isiD T t))) : Wp I (gIsi T d) P X := wg_eqm (by unfold gIsi; rw [e]) h
theorem wg_all {xs : List D} {bs : List Bool} (e : blsD xs = some bs) (h : P (.bl (bs.all id))) : Wp I (gAll [.lst xs]) P X := wg_eqm (by unfold gAll; dsimp only; rw [e]) h
theorem wg_any {xs : List D} {bs : List Bool} (e : blsD xs = some bs) (h : P (.bl (bs.any id))) : Wp I (gAny [.lst xs]) P X := wg_eqm (by unfold gAny; dsimp only; rw [e]) h
theorem wg_joinL {a : Str} {xs : List D} {ys : List Str} (e : strsD xs = some ys) (hl : (ys.map (·.length)).sum + ys.length * a.length ≤ 16777216) (h : P (.str (Txt.join a ys))) : Wp I (gJoin a (.lst xs)) P X :=
  wg_eqm (by unfold gJoin; dsimp only; rw [e]; exact if_pos hl) h
theorem wg_upper {a : Str} (hl : a.length ≤ 5592405) (h : P (.str (Txt.upper a))) : Wp I (gUpper a) P X := Wp.chk hl (Wp.pure h)
theorem wg_reprB {b : Bool} (h : P (.str (if b then "True" else "False"))) : Wp I (gRepr [.bl b]) P X := Wp.pure h
theorem wg_itL {xs : List D} (h : PL xs) : Wp I (itemsD (.lst xs)) PL X := Wp.pure h
theorem wg_itT {xs : List D} (h : PL xs) : Wp I (itemsD (.tup xs)) PL X := Wp.pure h
theorem wg_itC {xs : List Int} (h : PL (xs.map D.int)) : Wp I (itemsD (.scr xs)) PL X := Wp.pure h
theorem wg_itS {z : Str} (h : PL (chD z)) : Wp I (itemsD (.str z)) PL X := Wp.pure h
theorem wg_rng1 {j : Int} (hj : -(2 ^ 62) ≤ j ∧ j < 2 ^ 62) (h : PL (rngD 0 j.toNat)) : Wp I (rng1 (.int j)) PL X := Wp.chk hj (Wp.pure h)
theorem wg_rng2 {i j : Int} (hj : -(2 ^ 62) ≤ i ∧ i < 2 ^ 62 ∧ -(2 ^ 62) ≤ j ∧ j < 2 ^ 62) (h : PL (rngD i (j - i).toNat)) : Wp I (rng2 (.int i) (.int j)) PL X := Wp.chk hj (Wp.pure h)
theorem wg_slS {z : Str} {lo hi : Option Int} (hz : z.length ≤ 16777216) (h : P (.str (cutS z lo hi))) : Wp I (gSl (.str z) lo hi) P X := Wp.chk hz (Wp.pure h)
theorem wg_slL {z : List D} {lo hi : Option Int} (h : P (.lst (cutD z lo hi))) : Wp I (gSl (.lst z) lo hi) P X := Wp.pure h
theorem wg_slT {z : List D} {lo hi : Option Int} (h : P (.tup (cutD z lo hi))) : Wp I (gSl (.tup z) lo hi) P X := Wp.pure h
/-- a tuple or a list that is seen anew: the list's place as its word -/
theorem at_some {α : Type} {xs : List α} {i : Int} (h0 : 0 ≤ i) (h1 : i < xs.length) : ∃ d, atI xs i = some d ∧ xs[i.toNat]? = some d := by
  have hl : i.toNat < xs.length := by omega
  refine ⟨xs[i.toNat], ?_, List.getElem?_eq_getElem hl⟩
  unfold atI ixN
  rw [if_pos h0, if_pos h1]
  exact List.getElem?_eq_getElem hl
/-- from any store, a statement that makes the die, then the rest under the die's word -/
theorem ws_newDie {i : Nat} {ρ : Env} {g : Sm} {PS : Fl → Env → Prop} {fa : Env → M D} (h : ∀ S, ∃ S', fa ρ S = .ok (.mut S.length) S' ∧ IsDie S.length S') (h2 : ∀ n, Ws (IsDie n) (g (ρ.set i (.val (.mut n)))) PS X) :
    Ws (fun _ => True) (cSeq (cAsg fa (bName i)) g ρ) PS X := Ws.mk fun S _ => by
  obtain ⟨S', e, d⟩ := h S
  have h2 := (h2 S.length).at_ S' d
  simp only [cSeq, cAsg, onE, e, bName]
  cases q : g (ρ.set i (.val (.mut S.length))) S' with
  | go fl r S' => rw [q] at h2; exact ⟨h2.1, trivial⟩
  | exc c fs r S' => rw [q] at h2; exact ⟨h2.1, trivial⟩
  | bad => rw [q] at h2; exact h2
end

theorem rt_nx {d : D} {Q : Prop} (z : Fl.rt d = Fl.nx) : Q := by cases z
theorem bk_nx {Q : Prop} (z : Fl.bk = Fl.nx) : Q := by cases z
theorem ct_nx {Q : Prop} (z : Fl.ct = Fl.nx) : Q := by cases z
/-! the def that makes the die -/
def Wl (S0 : Store) (m : Store → RS) : Prop := ∃ ρ2 S2, m S0 = .go (.rt (.mut S0.length)) ρ2 S2 ∧ IsDie S0.length S2
section
variable {S0 : Store} {ρ : Env}
theorem wl_asg {i : Nat} {fa : Env → M D} {g : Sm} (h : Wp (fun S => S = S0) (fa ρ) (fun d => Wl S0 (g (ρ.set i (.val d)))) X0) : Wl S0 (cSeq (cAsg fa (bName i)) g ρ) := by
  obtain ⟨d, S', e, ⟨ρ2, S2, e2, hd⟩, rfl⟩ := h.run rfl
  refine ⟨ρ2, S2, ?_, hd⟩
  simp only [cSeq, cAsg, onE, e, bName]
  exact e2
theorem wl_ret {fs : Env → M (List D)} (h : Wp (fun S => S = S0) (fs ρ) (fun xs => ∃ a b c : Int, xs = [.int a, .int b, .int c]) X0) : Wl S0 (cRet (cA gLstM fs) ρ) := by
  obtain ⟨xs, S', e, ⟨a, b, c, rfl⟩, rfl⟩ := h.run rfl
  have z3 : (3 : Nat) ≤ 16777216 := by omega
  refine ⟨ρ, S' ++ [.lst [.int a, .int b, .int c]], ?_, a, b, c, by rw [List.getElem?_append_right (Nat.le_refl _), Nat.sub_self]; rfl⟩
  simp only [cRet, onE, cA, bind_run, e, gLstM, List.length_cons, List.length_nil, Nat.reduceAdd, z3, if_true]
theorem wl_run {n m : Nat} {body : Sm} {ds : List D} (e : ds.length = n) (h : Wl S0 (body (ds.map Sl.val ++ List.replicate (m - n) Sl.un))) : ∃ S', runF n m body ds S0 = .ok (.mut S0.length) S' ∧ IsDie S0.length S' := by
  obtain ⟨ρ2, S2, e2, hd⟩ := h
  refine ⟨S2, ?_, hd⟩
  unfold runF
  rw [if_pos e, e2]
end

/-! ### comprehensions by a function -/
theorem bls_map_ {α : Type} (p : α → Bool) : ∀ xs : List α, blsD (xs.map fun a => D.bl (p a)) = some (xs.map p)
  | [] => rfl
  | x :: xs => by unfold List.map blsD; rw [bls_map_ p xs]; rfl
section
variable {I : Store → Prop} {X : XP} {P : D → Prop} {ρ : Env} {fi : Env → M (List D)} {b : Bd} {t : Env → M Bool} {f : Env → M D} {vs : List Nat}
theorem fm_if (p : D → Bool) (g : D → D) : ∀ ds : List D, ds.filterMap (fun d => if p d = true then some (g d) else none) = (ds.filter p).map g
  | [] => rfl
  | d :: ds => by
    have ih := fm_if p g ds
    cases hp : p d with
    | true => simp only [List.filterMap_cons, List.filter_cons, hp, if_true, List.map_cons, ih]
    | false => simp only [List.filterMap_cons, List.filter_cons, hp, Bool.false_eq_true, if_false, ih]
theorem w_compF (p : D → Bool) (g : D → D) (h : Wp I (fi ρ) (fun ds => ds.length ≤ 16777216 ∧ (∀ d ∈ ds, ∃ ρ', b d (wipeE ρ vs) = some ρ' ∧ Wp I (t ρ') (fun k => k = p d ∧ (k = true → Wp I (f ρ') (fun y => y = g d) X0)) X0) ∧ P (.lst ((ds.filter p).map g))) X) :
    Wp I (cComp fi b t f vs ρ) P X := by
  refine w_comp (fun d o => o = if p d = true then some (g d) else none) (h.imp (fun ds ⟨h1, h2, h3⟩ => ⟨h1, fun d hd => ?_, fun ys hys => ?_⟩) fun _ _ x => x)
  · obtain ⟨ρ', e, w⟩ := h2 d hd
    refine ⟨ρ', e, w.imp (fun k ⟨e1, e2⟩ => ⟨fun hk => (e2 hk).imp (fun y hy => ?_) fun _ _ x => x, fun hk => ?_⟩) fun _ _ x => x⟩
    · rw [← e1, if_pos hk, hy]
    · rw [← e1, hk]; rfl
  · have := hys.filterMap (g := fun d => if p d = true then some (g d) else none)
    rw [this]
    rw [fm_if]
    exact h3
theorem w_compM (g : D → D) (h : Wp I (fi ρ) (fun ds => ds.length ≤ 16777216 ∧ (∀ d ∈ ds, ∃ ρ', b d (wipeE ρ vs) = some ρ' ∧ Wp I (f ρ') (fun y => y = g d) X0) ∧ P (.lst (ds.map g))) X) : Wp I (cComp fi b cYes f vs ρ) P X := by
  refine w_compF (fun _ => true) g (h.imp (fun ds ⟨h1, h2, h3⟩ => ⟨h1, fun d hd => ?_, ?_⟩) fun _ _ x => x)
  · obtain ⟨ρ', e, w⟩ := h2 d hd
    exact ⟨ρ', e, w_yes ⟨rfl, fun _ => w⟩⟩
  · rw [List.filter_eq_self.mpr fun _ _ => rfl]
    exact h3
theorem w_allc (p : D → Bool) (h : Wp I (fi ρ) (fun ds => ds.length ≤ 16777216 ∧ (∀ d ∈ ds, ∃ ρ', b d (wipeE ρ vs) = some ρ' ∧ Wp I (f ρ') (fun y => y = .bl (p d)) X0) ∧ P (.bl (ds.all p))) X) : Wp I (cA gAll (cCons (cComp fi b cYes f vs) cNil) ρ) P X := by
  refine w_cA (w_cons (w_compM (fun d => .bl (p d)) (h.imp (fun ds ⟨h1, h2, h3⟩ => ⟨h1, h2, w_nil (wg_all (bls_map_ p ds) ?_)⟩) fun _ _ x => x)))
  rw [List.all_map]
  exact h3
theorem w_anyc (p : D → Bool) (h : Wp I (fi ρ) (fun ds => ds.length ≤ 16777216 ∧ (∀ d ∈ ds, ∃ ρ', b d (wipeE ρ vs) = some ρ' ∧ Wp I (f ρ') (fun y => y = .bl (p d)) X0) ∧ P (.bl (ds.any p))) X) : Wp I (cA gAny (cCons (cComp fi b cYes f vs) cNil) ρ) P X := by
  refine w_cA (w_cons (w_compM (fun d => .bl (p d)) (h.imp (fun ds ⟨h1, h2, h3⟩ => ⟨h1, h2, w_nil (wg_any (bls_map_ p ds) ?_)⟩) fun _ _ x => x)))
  rw [List.any_map]
  exact h3
theorem wg_allM {p : D → Bool} {ds : List D} (h : P (.bl (ds.all p))) : Wp I (gAll [.lst (ds.map fun d => D.bl (p d))]) P X := wg_all (bls_map_ p ds) (by rw [List.all_map]; exact h)
theorem wg_anyM {p : D → Bool} {ds : List D} (h : P (.bl (ds.any p))) : Wp I (gAny [.lst (ds.map fun d => D.bl (p d))]) P X := wg_any (bls_map_ p ds) (by rw [List.any_map]; exact h)
theorem wg_tupleL {xs : List D} (h : P (.tup xs)) : Wp I (gTuple [.lst xs]) P X := Wp.pure h
theorem wg_tupleT {xs : List D} (h : P (.tup xs)) : Wp I (gTuple [.tup xs]) P X := Wp.pure h
theorem wg_listL {xs : List D} (h : P (.lst xs)) : Wp I (gList [.lst xs]) P X := Wp.pure h
theorem wg_listT {xs : List D} (h : P (.lst xs)) : Wp I (gList [.tup xs]) P X := Wp.pure h
theorem wg_revL {xs : List D} (h : P (.lst xs.reverse)) : Wp I (gRev (.lst xs)) P X := Wp.pure h
theorem wg_revT {xs : List D} (h : P (.tup xs.reverse)) : Wp I (gRev (.tup xs)) P X := Wp.pure h
theorem wg_zipT {xs ys : List D} {PL : List D → Prop} (h : PL (zipD xs ys)) : Wp I (gZip (.tup xs) (.tup ys)) PL X := Wp.pure h
theorem wg_mulT {xs : List D} {k : Int} (hl : xs.isEmpty = false ∧ 2 ≤ k ∧ k ≤ 1000 ∧ xs.length ≤ 1000) (h : P (.tup (List.replicate k.toNat xs).flatten)) : Wp I (gMul (.tup xs) (.int k)) P X := Wp.chk hl (Wp.pure h)
theorem wg_mulL {xs : List D} {k : Int} (hl : 0 ≤ k ∧ k ≤ 1000 ∧ xs.length ≤ 1000) (h : P (.lst (List.replicate k.toNat xs).flatten)) : Wp I (gMul (.lst xs) (.int k)) P X := Wp.chk hl (Wp.pure h)
theorem ws_parO {PS : Fl → Env → Prop} {i j : Nat} {fs : Env → M (List D)} {fe : Env → M D} (h : Wp I (fs ρ) (fun ds => ds.length ≤ 16777216 ∧ Wp I (fe ρ) (fun d => PS .nx ((ρ.set i (.own ds)).set j (.val d))) X) X) : Ws I (cParO i j fs fe ρ) PS X := by
  refine ws_onE (h.imp (fun ds ⟨c, h⟩ => ?_) fun _ _ x => x)
  simp only [if_pos c]
  exact ws_onE (h.imp (fun d h => ws_go h) fun _ _ x => x)
/-- a comparison by its answer -/
theorem eqD_int (i j : Int) : eqD (.int i) (.int j) = some (decide (i = j)) := by
  have e : ∀ k : Int, toP (.int k) = some (.int k) := fun k => by unfold toP; rfl
  unfold eqD
  rw [e, e]
  dsimp only
  rw [if_pos ⟨rfl, rfl⟩]
  show some (i == j) = _
  rfl
theorem eqD_bl (i j : Bool) : eqD (.bl i) (.bl j) = some (decide (i = j)) := by
  have e : ∀ k : Bool, toP (.bl k) = some (.bool k) := fun k => by unfold toP; rfl
  unfold eqD
  rw [e, e]
  cases i <;> cases j <;> decide
theorem eqX_of {x y : D} {b : Bool} (e : eqD x y = some b) : eqX x y = some b := by unfold eqX; rw [e]
theorem eqX_nil (xs : List D) : eqX (.lst xs) (.lst []) = some xs.isEmpty := by
  have e2 : toP (.lst []) = some (.list []) := by unfold toP toPs; rfl
  cases xs with
  | nil =>
    refine eqX_of ?_
    unfold eqD
    rw [e2]
    decide
  | cons x xs =>
    unfold eqX
    cases q : eqD (.lst (x :: xs)) (.lst []) with
    | none => rfl
    | some b =>
      unfold eqD at q
      rw [e2] at q
      unfold toP toPs at q
      cases q1 : toP x with
      | none => rw [q1] at q; cases q
      | some p =>
        cases q2 : toPs xs with
        | none => rw [q1, q2] at q; cases q
        | some ps =>
          rw [q1, q2] at q
          dsimp only [Option.map_some] at q
          by_cases c : SeqAt.shaped (.list (p :: ps)) = true ∧ SeqAt.shaped (.list []) = true
          · rw [if_pos c] at q; cases q; rfl
          · rw [if_neg c] at q; cases q
end

/-! ### loops over numbers, parts of sequences -/
section
variable {I : Store → Prop} {X : XP} {PS : Fl → Env → Prop}
theorem ws_forR {i : Nat} {body : Sm} {lo : Int} (n : Nat) (J : Nat → Env → Prop) (turn : ∀ k ρ, k < n → J k ρ → Ws I (body (ρ.set i (.val (.int (lo + (k : Nat)))))) (fun fl ρ2 => match fl with
      | .nx => J (k + 1) ρ2
      | .ct => J (k + 1) ρ2
      | .bk => PS .nx ρ2
      | .rt d => PS (.rt d) ρ2) X) (last : ∀ ρ, J n ρ → PS .nx ρ) (ρ : Env) (h : J 0 ρ) : Ws I (forL (bName i) body (rngD lo n) ρ) PS X := by
  refine ws_forL (J := fun ds ρ => ∃ k, k ≤ n ∧ ds = ((List.range n).drop k).map (fun m => D.int (lo + (m : Nat))) ∧ J k ρ) ?_ ?_ _ _ ⟨0, Nat.zero_le _, rfl, h⟩
  · rintro d ds ρ ⟨k, hk, e, j⟩
    by_cases hk' : k < n
    · have hl : k < (List.range n).length := by rw [List.length_range]; exact hk'
      rw [List.drop_eq_getElem_cons hl, List.map_cons, List.getElem_range] at e
      cases e
      refine ⟨_, rfl, (turn k ρ hk' j).imp (fun fl ρ2 q => ?_) fun _ _ x => x⟩
      cases fl with
      | nx => exact ⟨k + 1, hk', rfl, q⟩
      | ct => exact ⟨k + 1, hk', rfl, q⟩
      | bk => exact q
      | rt d => exact q
    · rw [List.drop_eq_nil_of_le (by rw [List.length_range]; omega)] at e
      cases e
  · rintro ρ ⟨k, hk, e, j⟩
    have : ((List.range n).drop k).length = 0 := by
      have := congrArg List.length e
      simpa using this.symm
    rw [List.length_drop, List.length_range] at this
    have hk : k = n := by omega
    subst hk
    exact last ρ j
end
theorem cutD_take {α : Type} (xs : List α) {i : Int} {k : Nat} (e : i = (k : Nat)) : cutD xs none (some i) = xs.take k := by
  subst e
  unfold cutD
  rw [HT.sIx_none, HT.sIx_nat, List.drop_zero, Nat.sub_zero]
  by_cases h : k ≤ xs.length
  · rw [Nat.min_eq_left h]
  · rw [Nat.min_eq_right (by omega), List.take_of_length_le (Nat.le_refl _), List.take_of_length_le (by omega)]
theorem cutD_drop {α : Type} (xs : List α) {i : Int} {k : Nat} (e : i = (k : Nat)) : cutD xs (some i) none = xs.drop k := by
  subst e
  unfold cutD
  rw [HT.sIx_none, HT.sIx_nat]
  by_cases h : k ≤ xs.length
  · rw [Nat.min_eq_left h, List.take_of_length_le (by rw [List.length_drop]; exact Nat.le_refl _)]
  · rw [Nat.min_eq_right (by omega), List.drop_of_length_le (Nat.le_refl _), List.drop_of_length_le (by omega), List.take_nil]
theorem rng_fits {k : Nat} (h : k ≤ 16777216) : -(2 ^ 62) ≤ (k : Int) ∧ (k : Int) < 2 ^ 62 := by
  have a : (-(2 ^ 62) : Int) ≤ 0 := by decide
  have b : (16777216 : Int) < 2 ^ 62 := by decide
  generalize (-(2 ^ 62) : Int) = p at *
  generalize ((2 ^ 62) : Int) = q at *
  omega
theorem wg_rngN {I : Store → Prop} {X : XP} {PL : List D → Prop} {k : Nat} (hk : k ≤ 16777216) (h : PL (rngD 0 k)) : Wp I (rng1 (.int k)) PL X := by
  have h' : PL (rngD 0 (k : Int).toNat) := by rw [Int.toNat_natCast]; exact h
  with_reducible exact wg_rng1 (rng_fits hk) h'
theorem ints_of {Q : Int → Prop} : ∀ {ys : List D}, (∀ y ∈ ys, ∃ i, y = D.int i ∧ Q i) → ∃ xs : List Int, ys = xs.map D.int ∧ ∀ x ∈ xs, Q x
  | [], _ => ⟨[], rfl, fun _ h => by cases h⟩
  | y :: ys, h => by
    obtain ⟨i, rfl, hi⟩ := h y List.mem_cons_self
    obtain ⟨xs, e, a⟩ := ints_of fun z hz => h z (List.mem_cons_of_mem _ hz)
    refine ⟨i :: xs, by rw [List.map_cons, e], fun x hx => ?_⟩
    rcases List.mem_cons.mp hx with rfl | hx
    · exact hi
    · exact a x hx
theorem rngD_len (lo : Int) (n : Nat) : (rngD lo n).length = n := by unfold rngD; rw [List.length_map, List.length_range]
theorem atI_nat {α : Type} {xs : List α} {k : Nat} {i : Int} (e : i = (k : Nat)) (h : k < xs.length) : atI xs i = some xs[k] := by
  subst e
  unfold atI ixN
  rw [if_pos (by omega), if_pos (by omega)]
  exact List.getElem?_eq_getElem (by omega)

/-! ### isinstance by kinds -/
def isIntB : D → Bool
  | .int _ => true
  | .bl _ => true
  | _ => false
def isBl : D → Bool
  | .bl _ => true
  | _ => false
def isTup : D → Bool
  | .tup _ => true
  | _ => false
def isStr : D → Bool
  | .str _ => true
  | _ => false
def Ty (d : D) : Prop := ∃ t, tyD d = some t
theorem isi_tab : (∀ t, isiD "int" t = (t == "int" || t == "bool")) ∧ (∀ t, isiD "bool" t = (t == "bool")) ∧ (∀ t, isiD "tuple" t = (t == "tuple")) ∧ (∀ t, isiD "str" t = (t == "str")) := by
  refine ⟨fun t => ?_, fun t => ?_, fun t => ?_, fun t => ?_⟩ <;> unfold isiD <;> simp
theorem isi_int {d : D} {t : String} (h : tyD d = some t) : isiD "int" t = isIntB d := by rw [isi_tab.1]; cases d <;> cases h <;> simp [isIntB]
theorem isi_bool {d : D} {t : String} (h : tyD d = some t) : isiD "bool" t = isBl d := by rw [isi_tab.2.1]; cases d <;> cases h <;> simp [isBl]
theorem isi_tuple {d : D} {t : String} (h : tyD d = some t) : isiD "tuple" t = isTup d := by rw [isi_tab.2.2.1]; cases d <;> cases h <;> simp [isTup]
theorem isi_str {d : D} {t : String} (h : tyD d = some t) : isiD "str" t = isStr d := by rw [isi_tab.2.2.2]; cases d <;> cases h <;> simp [isStr]
section
variable {I : Store → Prop} {X : XP} {P : D → Prop} {d : D}
theorem wg_isInt (h : Ty d) (q : P (.bl (isIntB d))) : Wp I (gIsi "int" d) P X := by obtain ⟨t, ht⟩ := h; exact wg_isi ht (by rw [isi_int ht]; exact q)
theorem wg_isBool (h : Ty d) (q : P (.bl (isBl d))) : Wp I (gIsi "bool" d) P X := by obtain ⟨t, ht⟩ := h; exact wg_isi ht (by rw [isi_bool ht]; exact q)
theorem wg_isTuple (h : Ty d) (q : P (.bl (isTup d))) : Wp I (gIsi "tuple" d) P X := by obtain ⟨t, ht⟩ := h; exact wg_isi ht (by rw [isi_tuple ht]; exact q)
theorem wg_isStr (h : Ty d) (q : P (.bl (isStr d))) : Wp I (gIsi "str" d) P X := by obtain ⟨t, ht⟩ := h; exact wg_isi ht (by rw [isi_str ht]; exact q)
end
/-! ### texts -/
def FineS (n : Nat) (z : Str) : Prop := z.cps.toList.length ≤ n ∧ ∀ c ∈ z.cps.toList, c < 128
def FineD (d : D) : Prop := (∃ t, tyD d = some t) ∧ ∀ z, d = .str z → FineS 1000 z
theorem len_cps (z : Str) : z.cps.toList.length = z.length := by first | rfl | simp [Str.length]
theorem FineS.le {n m : Nat} {z : Str} (h : FineS n z) (i : n ≤ m) : FineS m z := ⟨Nat.le_trans h.1 i, h.2⟩
theorem FineS.len {n : Nat} {z : Str} (h : FineS n z) : z.length ≤ n := by have := h.1; rw [len_cps] at this; exact this
theorem FineS.ok {n : Nat} {z : Str} (h : FineS n z) : PyData.strOk z = true := by
  unfold PyData.strOk
  rw [Array.all_eq_true_iff_forall_mem]
  intro c hc
  have := h.2 c (Array.mem_toList_iff.mpr hc)
  exact decide_eq_true (by omega)
theorem FineS.append {n m : Nat} {x y : Str} (h : FineS n x) (h' : FineS m y) : FineS (n + m) (x ++ y) := by
  have e : (x ++ y).cps.toList = x.cps.toList ++ y.cps.toList := tl_append x y
  refine ⟨?_, fun c hc => ?_⟩
  · rw [e, List.length_append]; exact Nat.add_le_add h.1 h'.1
  · rw [e] at hc
    exact (List.mem_append.mp hc).elim (h.2 c) (h'.2 c)
theorem FineS.cut {n : Nat} {z : Str} (h : FineS n z) (lo hi : Option Int) : FineS n (cutS z lo hi) := by
  refine ⟨?_, fun c hc => h.2 c ?_⟩
  · show List.length (List.take _ (List.drop _ _)) ≤ n
    have := h.1
    simp only [List.length_take, List.length_drop]
    omega
  · exact List.mem_of_mem_drop (List.mem_of_mem_take hc)
theorem FineS.upper {n : Nat} {z : Str} (h : FineS n z) : FineS n (Txt.upper z) := by
  rw [upper_ascii h.2]
  refine ⟨?_, fun c hc => ?_⟩
  · show (Array.map up1 z.cps).toList.length ≤ n
    rw [Array.toList_map, List.length_map]; exact h.1
  · have hc : c ∈ (Array.map up1 z.cps).toList := hc
    rw [Array.toList_map] at hc
    obtain ⟨a, ha, rfl⟩ := List.mem_map.mp hc
    have := h.2 a ha
    unfold up1
    split <;> omega
theorem FineS.one {c : Nat} (h : c < 128) : FineS 1 ⟨#[c]⟩ := ⟨Nat.le_refl 1, fun x hx => by rcases List.mem_singleton.mp hx with rfl; exact h⟩
theorem joinL_nil : ∀ ys : List (List Nat), joinL [] ys = ys.flatten
  | [] => rfl
  | [p] => by simp [joinL]
  | p :: q :: r => by unfold joinL; rw [joinL_nil (q :: r)]; rfl
theorem tl_join0 (ys : List Str) : (Txt.join "" ys).cps.toList = (ys.map tl).flatten := by
  have := tl_join "" ys
  rw [join_eq]
  exact this.trans (joinL_nil _)
theorem sum_ones : ∀ {ys : List Str}, (∀ y ∈ ys, y.length = 1) → (ys.map (·.length)).sum = ys.length
  | [], _ => rfl
  | y :: ys, h => by
    rw [List.map_cons, List.sum_cons, h y List.mem_cons_self, sum_ones fun z hz => h z (List.mem_cons_of_mem _ hz), List.length_cons]
    omega
theorem FineS.join : ∀ {ys : List Str}, (∀ y ∈ ys, FineS 1 y) → FineS ys.length (Txt.join "" ys) := fun {ys} h => by
  unfold FineS
  rw [tl_join0]
  induction ys with
  | nil => exact ⟨Nat.le_refl 0, fun c hc => by cases hc⟩
  | cons y ys ih =>
    obtain ⟨a, b⟩ := ih fun z hz => h z (List.mem_cons_of_mem _ hz)
    have hy := h y List.mem_cons_self
    rw [List.map_cons, List.flatten_cons]
    refine ⟨?_, fun c hc => ?_⟩
    · rw [List.length_append, List.length_cons]
      have : (tl y).length ≤ 1 := hy.1
      omega
    · exact (List.mem_append.mp hc).elim (hy.2 c) (b c)
end DN
/-! DX: raising own exceptions, and a def that calls what it got and tells whether an own exception came. -/
namespace DN
open PySem PySem.Spec PyProof.Rows L2

/-- an own class of exceptions over ValueError, made of one text -/
structure ExV (K : PySem.W.Frag) (mg : Str → Option Value) (cl : Cls_) (x : Str) (C : Addr) : Prop where
  ex : PySem.W.excIn K C [.type "ValueError", .type "Exception", .type "BaseException", .type "object"] "ValueError.__new__" = true
  g : mg x = some (.ref C)
  k : PySem.W.keepIn K (.ref C) = true
  s : PySem.W.subIn K (.ref C) (.type "BaseException") = some true
  t : PySem.W.typeIn K (.ref C) = some (.type "type")
  c : cl.at_ x = some C
def cRaise (c : Str) : Sm := fun ρ S => .exc c [] ρ S
section
variable {X : Cx} {cl : Cls_} {E : WX}
theorem ds_raise {x m : Str} {C : Addr} {j : Nat} {p p2 pos rpos : Pos} (V : ExV X.K X.mg cl x C) (hc : X.calm = true) (tk : Takes X E) (hg : Gl X x := by rfl) (hdb : (x == ("__debug__" : Str)) = false := by decide) :
    DS X cl E (.Raise (some (.Call (.Name x p) [.Constant (.str m) j p2] [] pos)) none rpos) (cRaise x) :=
  ps_imp (ps_raise hc tk (pmk_own PySem.F.excBase_ValueError V.ex V.g V.k (raises_own V.s V.t) hg hdb)) fun Dn σ H ⟨W0, H0, W, S, ρ, own, ev, h⟩ =>
    h W H σ own (.ref C) none Lw.refl ev ⟨C, V.c, rfl, .inl ⟨rfl, rfl⟩⟩
end

/-! ### a def with a table of code objects -/
structure FunC (K : PySem.W.Frag) (x qual : Str) (st : Stmt) (f : Addr) (fd : FuncData) (c : Addr) : Prop where
  ex : ∃ (oc : Value) (od : Option Addr) (kV doc pm : Value) (an : Option Addr) (ct : Value) (osl : Array (Option Value)),
    fd = PySem.W.fnOf x qual (defArgs st) (defBody st) (defScope st) .none kV doc pm an (.ref c) ct ∧ K.lookup f = some ⟨oc, od, .func fd, osl⟩ ∧ PySem.W.codeIn K (.ref c) qual = true
section
variable {P : Program} {w : World} {K : PySem.W.Frag} {mg : Str → Option Value} {base : Heap} {cl : Cls_}
theorem fn_Dc {x qual : Str} {st : Stmt} {f c : Addr} {fd : FuncData} {N ps : List Str} {k : Nat} {body : Sm} (F : FunC K x qual st f fd c) (S : FnScope N ps (defScope st))
    (hb : ∀ (A : Around) (outer : List PySem.Env) (s : Shared) (H : Hp) (E : XK), Room k (A.deeper (envOfC qual (defScope st) s.heap.objs.size f (.ref c))) → DSs (cxD P w K mg base N qual st f (.ref c) A outer s H E) cl (fun c d _ H => E c d H) (defBody st) body) :
    FnD P w K mg base cl (k + 1) f fd ps (runF ps.length N.length body) := by
  obtain ⟨oc, od, kV, doc, pm, an, ct, osl, rfl, lk, hcd⟩ := F.ex
  refine fn_of lk hcd S (fun vs H Q E ⟨W, S, ds, _, _, r, e, _⟩ => r.length.trans e) fun A outer s H vs Q E hr ⟨W, S, ds, w0, s0, r, e, h⟩ => ⟨_, hb A outer s H E hr, ?_⟩
  refine ⟨W, H, W, S, _, _, ev_start N w0 s0 r rfl, ?_⟩
  have h : Po ⟨K, cl⟩ (fun c d _ H => E c d H) [] W H (runF ps.length N.length body ds S) (RV ⟨K, cl⟩ Q) := h
  unfold runF at h
  rw [if_pos e, ← e] at h
  cases q : body (ds.map Sl.val ++ List.replicate (N.length - ds.length) Sl.un) S with
  | bad => rw [q] at h; exact h.elim
  | exc c fs ρ' S' =>
    rw [q] at h
    exact fun W' H' σ' own' cls dd l' e' x => h W' H' cls dd e'.le e'.wk e'.st x
  | go fl ρ' S' =>
    rw [q] at h
    intro W' H' σ' own' l' e'
    cases fl with
    | nx => exact h W' H' e'.le e'.wk e'.st _ .non
    | rt d => exact fun v rv => h W' H' e'.le e'.wk e'.st v rv
    | bk => exact h.elim
    | ct => exact h.elim
end

/-! ### x(lambda: e) : whether an own exception came -/
def cMet (c0 : Str) (fe : Env → M D) : Env → M D := fun ρ S => match fe ρ S with
  | .ok _ S' => .ok (.bl false) S'
  | .exc c fs S' => if c = c0 ∧ fs.isEmpty = true then .ok (.bl true) S' else .bad
  | .bad => .bad
/-- behind the making of a lambda -/
theorem Ev.lam {G : Gx} {W0 W : Wd} {H0 H H1 : Hp} {S : Store} {σ : L2.St} {ρ : Env} {own : Nat → Option Addr} (e : Ev G W0 H0 W H S σ ρ own) (x : LamX.ExtN H H1) (t : LamX.Tabs G.cl.T H1) : Le W H W H1 ∧ Ev G W0 H0 W H1 S σ ρ own := by
  have le : Le W H W H1 := ⟨fun _ _ h => h, fun _ _ h => .inl h, fun _ h => h, fun _ h => .inl h, fun b o h n => .inr (x b o h n)⟩
  have wk : WOk W H1 := ⟨fun a h => let ⟨o, q, n⟩ := e.wk.tr a h; ⟨o, x a o q n, n⟩, e.wk.rg, e.wk.ij⟩
  have lw := le.lw e.wk
  have st : StOk G W H1 S := by
    refine ⟨fun n c h => ?_, e.st.top, t⟩
    obtain ⟨a, h1, h2⟩ := e.st.at_ n c h
    refine ⟨a, h1, ?_⟩
    cases c with
    | lst ds => obtain ⟨vs, q, r⟩ := h2; exact ⟨vs, x _ _ q (by intro _ z; cases z), r.mono lw⟩
    | dct ds => obtain ⟨vs, q, r⟩ := h2; exact ⟨vs, x _ _ q (by intro _ z; cases z), r.mono lw⟩
  exact ⟨le, e.mono le wk st⟩
def TTmet (K : PySem.W.Frag) (CS : Addr) : (XK → Hp → VK → Prop) → Hp → VK → Prop := fun tl H Q =>
  tl (fun cls d H' => cls = .ref CS ∧ d = none ∧ Q (.bl true) H') H (fun _ H' => Q (.bl false) H')
section
variable {X : Cx}
/-- try: a() / except e as n: return isinstance(n, b) / return False -/
theorem met_gives {Ng : List Str} {x a e n b q : Str} {sg : Scope} {g CS CB : Addr} {cdg : Value} {j : Nat} {p1 p2 p3 p4 p5 p6 p7 p8 p9 p10 p11 p12 p13 : Pos} (hge : sg.names.lookup e = some .globalImplicit) (hme : X.mg e = some (.ref CS)) (hde : (e == ("__debug__" : Str)) = false)
    (hgb : sg.names.lookup b = some .globalImplicit) (hmb : X.mg b = some (.ref CB)) (hdb : (b == ("__debug__" : Str)) = false) (hgi : sg.names.lookup ("isinstance" : Str) = some .globalImplicit) (hmi : X.mg "isinstance" = none) (hN : Ng = [a, n]) (hnd : Ng.Nodup)
    (hln : sg.names.lookup n = some .local) (hvn : Vis sg n) (hdn : (n == ("__debug__" : Str)) = false) (hcn : (n == ("__classdict__" : Str)) = false) (C : ExcC X.K CS) (one : PySem.W.exmOne X.K (.ref CS) (.ref CS) = some true) (kit : PySem.W.kitOne X.K (.ref CS) (.ref CB) = some true)
    (sw : ∀ Z : Cx, swapsWith (.Call (.Name a p1) [] [] p2) none p3.line Z.env = pure false) :
    LamX.GivesTo X Ng x sg g cdg [.Try [.Expr (.Call (.Name a p1) [] [] p2) p3] [.ExceptHandler (some (.Name e p4)) (some n) [.Return (some (.Call (.Name "isinstance" p5) [.Name n p6, .Name b p7] [] p8)) p9] p10] [] [] p11, .Return (some (.Constant (.bool false) j p12)) p13] a q (TTmet X.K CS) := by
  intro f c' s H Q tl act hc h
  subst hN
  have hgl : Gl (cxOf C8.CX0 X.prog X.w X.K X.mg X.base [a, n] x sg g cdg X.A X.stack s H C8.E0).nox e := hge
  refine ⟨_, pss_cons (ps_try_as (X := (cxOf C8.CX0 X.prog X.w X.K X.mg X.base [a, n] x sg g cdg X.A X.stack s H C8.E0).nox) (c := .ref CS) (i := 1)
      (tb := fun W D σ H => ∃ Ech : XK, (∀ cls d σ' H', Ech cls d H' → W cls d σ' H') ∧ σ[0]? = some (some (.ref f)) ∧ H c' = some (LamX.CodeO c' q) ∧ tl Ech H (fun _ H' => D.nx σ H'))
      (ts := fun ea cls d D σ H => cls = .ref CS ∧ d = none ∧ (1 < σ.length → σ[1]? = some (some (.ref ea))) ∧ D.rt (.bl true) H)
      rfl rfl hnd rfl hln ⟨hgl, hde, .inl hme⟩ LamX.takes0 (fun W pn xe tk _ => ?_) (fun ea oe cls d pn hz hf => ?_)) (pss_one (ps_ret pe_bl)), ?_⟩
  · refine ⟨fun pins s' σ H' D I h' => ?_⟩
    obtain ⟨Ech, hW, h1, h2, h3⟩ := h'
    have hp := act W pn xe Ech p1 p2 tk hW
    exact (pss_one (ps_expr (pos := p3) hp (sw _))).run pins s' σ H' D I ⟨h1, h2, h3⟩
  · refine ⟨fun pins s' σ H' D I h' => ?_⟩
    obtain ⟨e1, e2, h3, h4⟩ := h'
    subst e1 e2
    have len : σ.length = 2 := I.len
    have slot := h3 (by omega)
    have ci := call_isE (X := (cxOf C8.CX0 X.prog X.w X.K X.mg X.base [a, n] x sg g cdg X.A X.stack s H C8.E0).nox) (pn := pn) (a := ea) C hz hf
    have pv : PE ((cxOf C8.CX0 X.prog X.w X.K X.mg X.base [a, n] x sg g cdg X.A X.stack s H C8.E0).nox.suite ea ((ea, oe) :: pn)) (.Name n p6) (tVar 1) := pe_var (i := 1) rfl hvn hdn hcn
    have pb : PE ((cxOf C8.CX0 X.prog X.w X.K X.mg X.base [a, n] x sg g cdg X.A X.stack s H C8.E0).nox.suite ea ((ea, oe) :: pn)) (.Name b p7) (tC (.ref CB)) := C8.pe_gc hgb ⟨_, hmb, rfl⟩ hdb
    have pc := pe_callB (p := p5) (pos := p8) ci hgi hmi (by decide +kernel) (pa_cons pv (pa_cons pb pa_nil (by rfl)) (by rfl)) (by decide) (by decide) (by rfl) (by rfl)
    exact (pss_one (ps_ret (pos := p9) pc)).run pins s' σ H' D I ⟨.ref ea, slot, .ref CB, .ref CB, true, rfl, fun u r => r, kit, h4⟩
  · refine ⟨fun cls d H' => cls = .ref CS ∧ d = none ∧ Q (.bl true) H', fun cls d σ' H' ⟨e1, e2, e3⟩ => ?_, rfl, hc, h⟩
    subst e1 e2
    refine ⟨true, one, fun _ a ha => ⟨rfl, rfl, fun hl => ?_, e3⟩, fun z => (nomatch z)⟩
    exact List.getElem?_set_self (by rw [List.length_set] at hl; exact hl)
end
/-- the def that calls what it got, as it stands in the module -/
structure MetD (X : Cx) (x : Str) (CS : Addr) : Prop where
  ex : ∃ (a : Str) (g : Addr) (pg : Arguments) (bg : List Stmt) (sg : Scope) (dV kV doc pm cdv ct oc : Value) (an od : Option Addr) (osl : Array (Option Value)) (Ng : List Str),
    X.mg x = some (.ref g) ∧ PySem.W.keepIn X.K (.ref g) = true ∧ X.K.lookup g = some ⟨oc, od, .func (PySem.W.fnOf x x pg bg sg dV kV doc pm an cdv ct), osl⟩ ∧ PySem.W.codeIn X.K cdv x = true ∧
    L2.Binds X.K (PySem.W.fnOf x x pg bg sg dV kV doc pm an cdv ct) [a] [] ∧ FnScope Ng [a] sg ∧ Ng[0]? = some a ∧ Vis sg a ∧ (a == ("__debug__" : Str)) = false ∧ (a == ("__classdict__" : Str)) = false ∧ (∀ q, LamX.GivesTo X Ng x sg g cdv bg a q (TTmet X.K CS))
theorem de_met {X : Cx} {cl : Cls_} {E : WX} {x c0 : Str} {CS c P : Addr} {k : Nat} {params : Arguments} {body : Expr} {scope : Scope} {p lpos pos : Pos} {fe : Env → M D} (D0 : MetD X x CS) (hcs : cl.at_ c0 = some CS) (TB : LamX.TabB X.base X.mg c P) (hcode : X.env.code = .ref c)
    (hmT : (P, X.env.qual ++ "<lambda>") ∈ cl.T) (hu : ∀ p ∈ cl.T, p.1 = P → p.2 = X.env.qual ++ "<lambda>") (hr : Room (k + 2) X.A) (L : LamX.LamS X.env.scope scope)
    (hbody : ∀ (A : Around) (outer : List PySem.Env) (s : Shared) (H : Hp) (E : XK) (f c' : Addr), Room k (A.deeper (LamX.lamEnv X scope s.heap.objs.size f c')) → DE (LamX.lamCx X A outer s H E scope f c') cl (fun c d _ H => E c d H) body fe)
    (hdef : defaultsOf params X.env = ([], []) := by rfl) (hbind : ∀ (q : Str) (cl : List (Str × Addr)) (pm cv ctv : Value), bindArgs (PySem.W.kla_fn "<lambda>" q params body scope cl pm cv ctv) ⟨[], []⟩ = pure [] := by intros; rfl)
    (hg : Gl X x := by rfl) (hdb : (x == ("__debug__" : Str)) = false := by decide) :
    DE X cl E (.Call (.Name x p) [.Lambda params body scope lpos] [] pos) (cMet c0 fe) := by
  obtain ⟨a, g, pg, bg, sg, dV, kV, doc, pm, cdv, ct, oc, an, od, osl, Ng, m1, m2, m3, m4, m5, m6, m7, m8, m9, m10, m11⟩ := D0.ex
  refine pe_imp (LamX.pe_lamcall (T := cl.T) (t := fun E => tE ⟨X.K, cl⟩ (fun c d _ H => E c d H) fe) hg m1 m2 m3 m4 m5 m6 m7 m8 (m11 _) TB hcode hmT hu hr L hdef hbind hbody hdb m9 m10) fun σ H Q ⟨W0, H0, W, S, ρ, own, ev, h⟩ => ?_
  refine ⟨ev.st.tb, fun H1 x1 t1 => ?_⟩
  obtain ⟨le, ev1⟩ := ev.lam x1 t1
  have h := Po.step ev.wk le h
  refine ⟨W0, H0, W, S, ρ, own, ev1, ?_⟩
  have h : Po ⟨X.K, cl⟩ E σ W H1 (cMet c0 fe ρ S) (RV ⟨X.K, cl⟩ Q) := h
  unfold cMet at h
  cases q : fe ρ S with
  | bad => rw [q] at h; exact h.elim
  | ok d S' =>
    rw [q] at h
    exact fun W' H' l w s v _ => h W' H' l w s _ (.bl false)
  | exc cc fs S' =>
    rw [q] at h
    by_cases e : cc = c0 ∧ fs.isEmpty = true
    · have h3 : Po ⟨X.K, cl⟩ E σ W H1 (if cc = c0 ∧ fs.isEmpty = true then Res.ok (D.bl true) S' else Res.bad) (RV ⟨X.K, cl⟩ Q) := h
      rw [if_pos e] at h3
      clear h
      obtain ⟨e, ef⟩ := e
      subst e
      intro W' H' cls dd l w s ⟨C, e1, e2, e3⟩
      have e1 : cl.at_ cc = some C := e1
      rw [hcs] at e1
      cases e1
      refine ⟨e2, ?_, h3 W' H' l w s _ (.bl true)⟩
      rcases e3 with ⟨_, e3⟩ | ⟨e3, _⟩
      · exact e3
      · exact absurd (List.isEmpty_iff.mp ef) e3
    · have h : Po ⟨X.K, cl⟩ E σ W H1 (if cc = c0 ∧ fs.isEmpty = true then Res.ok (D.bl true) S' else Res.bad) (RV ⟨X.K, cl⟩ Q) := h
      rw [if_neg e] at h
      exact h.elim
structure FdC (K : PySem.W.Frag) (mg : Str → Option Value) (x qual : Str) (st : Stmt) (ps : List Str) (c : Addr) : Prop where
  ex : ∃ f fd, FunC K x qual st f fd c ∧ mg x = some (.ref f) ∧ PySem.W.keepIn K (.ref f) = true ∧ Binds K fd ps []
theorem FdC.cal {P : Program} {w : World} {K : PySem.W.Frag} {mg : Str → Option Value} {base : Heap} {cl : Cls_} {x qual : Str} {st : Stmt} {N ps : List Str} {c : Addr} {k : Nat} {body : Sm} (F : FdC K mg x qual st ps c) (S : FnScope N ps (defScope st))
    (hb : ∀ (f : Addr) (A : Around) (outer : List PySem.Env) (s : Shared) (H : Hp) (E : XK), Room k (A.deeper (envOfC qual (defScope st) s.heap.objs.size f (.ref c))) → DSs (cxD P w K mg base N qual st f (.ref c) A outer s H E) cl (fun c d _ H => E c d H) (defBody st) body) :
    Cal P w K mg base cl x (k + 1) ps (runF ps.length N.length body) := by
  obtain ⟨f, fd, F, m, kp, b⟩ := F.ex
  exact ⟨f, fd, fn_Dc F S fun A outer s H E hr => hb f A outer s H E hr, m, kp, b⟩
/-! ### {x: n}, the key a tuple of ints: a dict, of which nothing else is kept -/
theorem pe_dict1 {X : Cx} {i : Nat} {x : Str} {n : Int} {j : Nat} {p1 p2 pos : Pos} (hu : X.A.units + 64 < cLine) (hk : PE X (.Name x p1) (tVar i)) : PE X (.Dict [some (.Name x p1)] [.Constant (.int n) j p2] pos) (fun σ H Q => ∃ (a : Addr) (ns : List Int), σ[i]? = some (some (.ref a)) ∧ SqT X.K H a (ns.map V.int) ∧ ∀ p, H p = none → Q (.ref p) (upd H p (OpqO p))) := by
  refine ⟨fun pins s σ H Q I ⟨a, ns, hs, hT, q⟩ => ?_⟩
  have fresh := I.hok.fresh (Nat.le_refl s.heap.objs.size)
  have I1 := I.laid (a := s.heap.objs.size) (o := .dK []) (h' := s.heap.push { cls := .type "dict", data := .dict #[] }) (t' := s.toks) (fun _ _ z => Heap.get?_push_of_some _ z) (Nat.le_refl _) (dk_empty s.heap I.big)
  have pp : PPs X pos [some (.Name x p1)] [.Constant (.int n) j p2] [(tVar i, tC (.int n))] := pps_cons hk pe_int pps_nil
  refine wpAny_Dict_pairsH (knd := TK X.prog X.w) (pairs := pairTrees [some (.Name x p1)] [.Constant (.int n) j p2] X.env pos) (by show X.A.units < cLine; omega) (zip_pairTrees _ _ X.env pos (by rfl) (by rfl)) (by intro z; have := congrArg List.length z; simp [pairTrees] at this) (by simp [pairTrees]) ?_
  refine thn (pp.run pins _ σ _ (fun ps H' => ps = [(.ref a, .int n)] ∧ H' = upd H s.heap.objs.size (.dK [])) I1 ⟨.ref a, hs, rfl, rfl⟩) fun vs s2 ⟨ps, H2, I2, rel, ep, eH⟩ => ?_
  subst ep eH
  obtain ⟨u, w2, rfl, ru, rw2⟩ : ∃ u w2, vs = [(u, w2)] ∧ RelV (.ref a) u ∧ RelV (.int n) w2 := by
    cases rel with
    | cons h t => cases t; exact ⟨_, _, rfl, h.1, h.2⟩
  cases ru
  have sm : Same H (upd H s.heap.objs.size (.dK [])) := Same.new fresh
  have kT : SqT X.K (upd H s.heap.objs.size (.dK [])) a (ns.map V.int) := by
    rcases hT with h | h
    · rcases h with h | ⟨o, h⟩
      · exact .inl (.inl (sm _ _ h))
      · exact .inl (.inr ⟨o, sm _ _ h⟩)
    · exact .inr h
  obtain ⟨z, hd, vs0, r0, dd⟩ := dk_of I2.hok (show upd H s.heap.objs.size (.dK []) s.heap.objs.size = some (.dK []) from upd_same)
  cases r0
  refine ⟨[(ns, a, w2)], ⟨rfl, rfl, I2.isT kT, trivial⟩, ?_, fun h' tk dd' hsame => ?_⟩
  · obtain ⟨o, es, ep, e1, e2, e3, _, e5, _⟩ := dd
    have e4 : es.toList = [] := by
      cases h : es.toList with
      | nil => rfl
      | cons a b => rw [h] at e5; first | cases e5 | exact (show False from e5).elim
    exact ⟨o, es, ep, e1, e2, e3, e4, fun _ h => (by cases h), List.Pairwise.nil⟩
  · obtain ⟨xs, ⟨o, es, ep, e1, e2, _⟩, _⟩ := dd'
    have W2 := d_write (t' := tk) (ob := OpqO s.heap.objs.size) I2 (by rw [upd_same]; exact True.intro) hsame ⟨o, e1⟩ ⟨⟨o, e1, e2.1⟩, ⟨o, e1⟩, fun h1 h2 ⟨o, a, b⟩ st => ⟨o, st _ a, b⟩⟩
    have eu : upd (upd H s.heap.objs.size (.dK [])) s.heap.objs.size (OpqO s.heap.objs.size) = upd H s.heap.objs.size (OpqO s.heap.objs.size) := by
      funext b
      by_cases hb : b = s.heap.objs.size
      · subst hb; rw [upd_same, upd_same]
      · rw [upd_ne hb, upd_ne hb, upd_ne hb]
    rw [eu] at W2
    exact ⟨.ref s.heap.objs.size, _, W2, rfl, q _ fresh⟩
def tupIs : D → Bool
  | .tup ds => ds.all fun d => match d with | .int _ => true | _ => false
  | _ => false
/-- {x: n} -/
def cDict1 (i : Nat) : Env → M D := fun ρ S => match ρ[i]? with
  | some (.val d) => if tupIs d = true then .ok .opq S else .bad
  | _ => .bad
theorem ints_rp {G : Gx} {W : Wd} {H : Hp} : ∀ {ds : List D} {vs : List V}, RpA G W H vs ds → (ds.all fun d => match d with | .int _ => true | _ => false) = true → ∃ ns : List Int, vs = ns.map V.int
  | [], _, .nil, _ => ⟨[], rfl⟩
  | d :: ds, _, .cons r t, h => by
    rw [List.all_cons, Bool.and_eq_true] at h
    obtain ⟨ns, e⟩ := ints_rp t h.2
    cases d with
    | int i => cases r; exact ⟨i :: ns, by rw [e]; rfl⟩
    | _ => cases h.1
theorem de_dict1 {X : Cx} {cl : Cls_} {E : WX} (i : Nat) {x : Str} {n : Int} {j : Nat} {p1 p2 pos : Pos} (hu : X.A.units + 64 < cLine) (hk : PE X (.Name x p1) (tVar i)) : DE X cl E (.Dict [some (.Name x p1)] [.Constant (.int n) j p2] pos) (cDict1 i) := by
  refine pe_imp (pe_dict1 hu hk) fun σ H Q ⟨W0, H0, W, S, ρ, own, ev, h⟩ => ?_
  have h : Po ⟨X.K, cl⟩ E σ W H (cDict1 i ρ S) (RV ⟨X.K, cl⟩ Q) := h
  unfold cDict1 at h
  cases q : ρ[i]? with
  | none => rw [q] at h; exact h.elim
  | some sl =>
    rw [q] at h
    cases sl with
    | un => exact h.elim
    | own xs => exact h.elim
    | val d =>
      obtain ⟨v, hv, rv⟩ := ev.sl i d q
      cases d with
      | tup ds =>
        have h2 : Po ⟨X.K, cl⟩ E σ W H (if tupIs (.tup ds) = true then Res.ok D.opq S else Res.bad) (RV ⟨X.K, cl⟩ Q) := h
        by_cases c : tupIs (.tup ds) = true
        · rw [if_pos c] at h2
          cases rv with
          | @tup a vs _ ha ra =>
            obtain ⟨ns, e⟩ := ints_rp ra c
            subst e
            exact ⟨a, ns, hv, ha.sq, fun p hp => Po.new ev.wk ev.st h2 hp (.opq upd_same (ev.wk.free hp))⟩
        · rw [if_neg c] at h2
          exact h2.elim
      | _ => exact h.elim
end DN
/-! DY: the end of a law row with tables of code objects. -/
namespace DN
open PySem PySem.Spec PyProof.Rows L2 LamX
theorem law_spT {K : PySem.W.Frag} {cl : Cls_} {cs : List (Addr × Addr)} {F : List D → M D} {n : Nat} (hT : ∀ p ∈ cl.T, p.1 ∈ cs.map (·.2)) (main : ∀ ns : List Int, ns.length ≤ n → ∃ S', F [.scr ns] [] = .ok (.bl true) S') {H : Hp} {a : Addr} {ns : List Int} (hl : ns.length ≤ n)
    (hH : ∀ p ∈ cs, H p.2 = some (.tbl #[])) (hS : SqL K H a (ns.map V.int)) : spD ⟨K, cl⟩ 1 F [.ref a] H (fun v _ => v = .bl true) fun _ _ _ => False := by
  obtain ⟨S', e⟩ := main ns hl
  refine ⟨⟨fun _ => none, fun _ => False⟩, [], [.scr ns], ⟨fun _ h => h.elim, fun _ _ h => (nomatch h), fun _ _ _ h => (nomatch h)⟩, ⟨fun _ _ h => (nomatch h), fun _ _ => rfl, fun p hp => ?_⟩, .cons (.scr ?_) .nil, rfl, ?_⟩
  · obtain ⟨q, hq, eq⟩ := List.mem_map.mp (hT p hp)
    have := hH q hq
    rw [eq] at this
    exact TabS.nil this
  · rcases hS with h | h
    · exact .inl ⟨h, fun z => z⟩
    · exact .inr h
  · rw [e]
    intro W' H' l w s v rv
    cases rv; rfl
/-- what the law's module gives: the tables of its defs are empty -/
theorem walk_DT {l : PySem.W.OpenLaw} {n k : Nat} {q : Program} {loose : List Str} {XP : (Str → Option Value) → Heap → Prop} {YP : World → Heap → Prop} {d : DefRec} {K : Params → PySem.W.Frag} {F : List D → M D} (hn : l.most = some n) (hn2 : n ≤ sizeLine) (hdf : d.params.defaults = []) (hr : Room k callerA)
    (hY : ∀ (w : World) (h : Heap), YP w h → (K w.params).In h) (main : ∀ ns : List Int, ns.length ≤ n → ∃ S', F [.scr ns] [] = .ok (.bl true) S')
    (FF : ∀ (w : World) (mg : Str → Option Value) (fa : Addr) (h : Heap), (K w.params).In h → h.Ns mainGlobals mg → mg d.name = some (.ref fa) →
      (∀ (nm : Str) (f : Addr), ((recsOf q).any fun e => e.name == nm) = true → mg nm = some (.ref f) → OwnTab (K w.params) f h) →
      ∃ (fd : FuncData) (cs : List (Addr × Addr)) (cl : Cls_), (∀ p ∈ cs, h.get? p.2 = some { cls := .none, data := .fields #[] }) ∧ (∀ p ∈ cs, (K w.params).lookup p.2 = none) ∧ (∀ p ∈ cs, PySem.W.CodeHd h p.1 p.2) ∧ (∀ p ∈ cl.T, p.1 ∈ cs.map (·.2)) ∧
        (∀ (s : Shared) (u : Value), BindsTo s fd ⟨[u], []⟩ [("script", u)]) ∧ ∀ base : Heap, (K w.params).In base → base.Ns mainGlobals mg → (∀ p ∈ cs, TabB base mg p.1 p.2) → FnD l.prog w (K w.params) mg base cl k fa fd ["script"] F) :
    PySem.W.WalkO q loose XP YP l.row.toRowW d [] (fun f vs => PySem.call f vs) := by
  refine Att.attach_callB hn hdf fun w s₀ s₁ mg mb fa o pm cd doc a vs ns G Y ho hd hcd hmg hobj hints hlen hbits hg => ?_
  have KX := hY w _ Y
  have own : ∀ (nm : Str) (f : Addr), ((recsOf q).any fun e => e.name == nm) = true → mg nm = some (.ref f) → OwnTab (K w.params) f s₁.heap := by
    intro nm f hrec hnm c P o1 fd1 e dd vs1 sl k1 k2 k3 k4 k5
    obtain ⟨dL, hm, he⟩ := List.any_eq_true.mp hrec
    obtain ⟨a', o', fd', c', P', g1, g2, g3, g4, g5, ⟨oc, vc, u1, _, u3, u4⟩, hP⟩ := G.T.tab dL hm
    rw [beq_iff_eq.mp he, hnm] at g1
    cases g1
    have v1 := KX _ _ k1
    rw [v1] at g2
    cases g2
    rw [k2] at g3
    cases g3
    rw [k3] at g4
    cases g4
    have v2 := KX _ _ k4
    rw [v2] at u1
    cases u1
    cases u3
    rw [k5] at u4
    cases u4
    exact hP
  obtain ⟨fd, cs, cl, h1, h2, h3, h4, h5, h6⟩ := FF w mg fa _ KX G.T.g hmg own
  exact law_callTs KX G.T.g G.T.b G.T.builtins G.T.nolimit hg h1 h2 h3 G.T.bmain hobj hints (Nat.le_trans hlen hn2) hr h6 h5 (fun H hH hS => law_spT h4 main hlen hH hS) fun H e s' h => no_cx h
/-! ### what is asked of the written part -/
theorem kit_own {K : PySem.W.Frag} {t : Value} {B : Addr} (hd : PySem.W.hasDictIn K B = true) (ht : PySem.W.typeIn K (.ref B) = some (.type "type")) (hs : PySem.W.subIn K t (.ref B) = some true) : PySem.W.kitOne K t (.ref B) = some true := by
  obtain ⟨cd, hc, _⟩ := PySem.W.any_some hd
  have e2 : ((PySem.W.clsIn K B).isSome && PySem.W.typeIn K (.ref B) == some (.type "type")) = true := by rw [hc, ht]; rfl
  unfold PySem.W.kitOne PySem.W.kitCls
  by_cases e : (t == Value.ref B) = true
  · rw [if_pos e]
  · rw [if_neg e]
    show (if ((PySem.W.clsIn K B).isSome && PySem.W.typeIn K (.ref B) == some (.type "type")) = true then PySem.W.subIn K t (.ref B) else none) = some true
    rw [if_pos e2]
    exact hs
/-- the table that a code object's fields name -/
def tabV (vs : Array Value) : Option Addr := match (vs[11]? : Option Value) with
  | some (.ref P) => some P
  | _ => none
def codeV (vs : Array Value) : Bool := (match vs.getD 18 .none with | .str _ _ => true | _ => false) && (match vs.getD 7 .none with | .int _ _ => true | _ => false) && (match vs.getD 9 .none with | .bool _ => true | _ => false) && (match vs.getD 10 .none with | .int _ _ => true | _ => false)
theorem tabV_at {vs : Array Value} {P : Addr} (h : tabV vs = some P) : vs[11]? = some (.ref P) := by
  unfold tabV at h
  cases q : (vs[11]? : Option Value) with
  | none => rw [q] at h; cases h
  | some v =>
    rw [q] at h
    cases v with
    | ref a => cases h; rfl
    | _ => cases h
theorem codeHd_at {K : PySem.W.Frag} {c P : Addr} {ud : Option Addr} {vs : Array Value} {us : Array (Option Value)} (u : K.lookup c = some ⟨.type "code", ud, .fields vs, us⟩) (t : tabV vs = some P) (o : codeV vs = true) (ne : (c != P) = true) : PySem.W.codeHdIn K c P = true := by
  unfold PySem.W.codeHdIn
  rw [u]
  show ((match (vs[11]? : Option Value) with | some (.ref P') => P' == P | _ => false) && (match vs.getD 18 .none with | .str _ _ => true | _ => false) && (match vs.getD 7 .none with | .int _ _ => true | _ => false) && (match vs.getD 9 .none with | .bool _ => true | _ => false) && (match vs.getD 10 .none with | .int _ _ => true | _ => false) && c != P) = true
  rw [tabV_at t]
  unfold codeV at o
  simp only [Bool.and_eq_true] at o ⊢
  exact ⟨⟨⟨⟨⟨beq_self_eq_true P, o.1.1.1⟩, o.1.1.2⟩, o.1.2⟩, o.2⟩, ne⟩
end DN
/-! DQ: defs that want that no repr is under way (they call repr of lists): their promise, calls of them, the end of a law row. -/
namespace DN
open PySem PySem.Spec PyProof.Rows L2 LamX

/-- a def's promise where no guard is under way -/
structure FnG (P : Program) (w : World) (K : PySem.W.Frag) (mg : Str → Option Value) (base : Heap) (cl : Cls_) (k : Nat) (f : Addr) (fd : FuncData) (ps : List Str) (F : List D → M D) : Prop where
  run : ∀ (A : Around) (outer : List PySem.Env) (s : Shared) (H : Hp) (args : Args) (us : List Value) (vs : List V) (Q : VK) (E : XK), A.guards = some [] → Room k A → Env0 P w K mg base A outer s H → BindsTo s fd args (ps.zip us) → Vals vs us → spD ⟨K, cl⟩ ps.length F vs H Q E →
    codeAny (model P w) A (.call (.ref f) args) (CR (L2.CX P w) outer P w H s Q E) s
theorem spD_len {G : Gx} {n : Nat} {F : List D → M D} {vs : List V} {H : Hp} {Q : VK} {E : XK} (h : spD G n F vs H Q E) : vs.length = n := by
  obtain ⟨W, S, ds, _, _, r, e, _⟩ := h
  exact r.length.trans e
section
variable {P : Program} {w : World} {K : PySem.W.Frag} {mg : Str → Option Value} {base : Heap} {cl : Cls_}
theorem FnG.of {k : Nat} {f : Addr} {fd : FuncData} {ps : List Str} {F : List D → M D} (h : FnD P w K mg base cl k f fd ps F) : FnG P w K mg base cl k f fd ps F :=
  ⟨fun A outer s H args us vs Q E _ hr he hb hv hs => h.run A outer s H args us vs Q E hr he hb hv hs⟩
theorem fn_Gof {k : Nat} {f : Addr} {name qual : Str} {params : Arguments} {body : List Stmt} {scope : Scope} {dV kV doc pm cdv ct oc : Value} {an od : Option Addr} {osl : Array (Option Value)} {N ps : List Str} {sm : Sm}
    (lk : K.lookup f = some ⟨oc, od, .func (PySem.W.fnOf name qual params body scope dV kV doc pm an cdv ct), osl⟩) (hcd : PySem.W.codeIn K cdv qual = true) (S : FnScope N ps scope)
    (hb : ∀ (A : Around) (outer : List PySem.Env) (s : Shared) (H : Hp) (E : XK), (A.deeper (envOfC qual scope s.heap.objs.size f cdv)).guards = some [] → Room k (A.deeper (envOfC qual scope s.heap.objs.size f cdv)) → DSs (cxOf (L2.CX P w) P w K mg base N qual scope f cdv A outer s H E) cl (fun c d _ H => E c d H) body sm) :
    FnG P w K mg base cl (k + 1) f (PySem.W.fnOf name qual params body scope dV kV doc pm an cdv ct) ps (runF ps.length N.length sm) := by
  refine ⟨fun A outer s H args us vs Q E gu hr e0 hbd r hsp => ?_⟩
  have hl := spD_len hsp
  have KX : K.In s.heap := e0.mod.kin.keeps fun b o e => (e0.bs b o e).1
  have lim : s.heap.NoLimit := e0.mod.nolimit.keeps fun b o e => (e0.bs b o e).1
  have hkind : ∀ y ∈ ps.zip us, scope.names.lookup y.1 = some .local ∨ (scope.names.lookup y.1 = some .cell ∧ ((cellsFrom (s.heap.objs.size + 1) scope.names []).lookup y.1).isSome = true) := fun ⟨n, v⟩ hy => by
    rcases S.par n (List.of_mem_zip hy).1 with q | q
    · exact .inl q
    · exact .inr ⟨q, PySem.W.cellsFrom_some _ _ _ (.inl q)⟩
  refine codeAny_call_function hr.depth (KX _ _ lk) rfl S.co S.gen rfl (PySem.W.codeRec_of KX hcd) (hbd _ _ _ _ ?_)
  refine wpAny_newFunctionEnv_cells S.kind hkind fun env he s1 x => ?_
  subst he
  refine ⟨lim.keeps x.toInCall.keep, codeAny_func ?_⟩
  have I : Inv (cxOf (L2.CX P w) P w K mg base N qual scope f cdv A outer s H E) [] (start N vs) H s1 := inv_start S hr.hd e0 hl r x
  obtain ⟨W, S0, ds, w0, s0, rr, e, h⟩ := hsp
  have ht := hb A outer s H E gu (hr.deeper _)
  refine wpAny_mono (ht.run [] s1 (start N vs) H { nx := fun _ H' => Q .non H', rt := Q } I ?_) (fun fl s' hs => ?_) fun e s' hs => hs
  · refine ⟨W, H, W, S0, _, _, ev_start N w0 s0 rr rfl, ?_⟩
    have h : Po ⟨K, cl⟩ (fun c d _ H => E c d H) [] W H (runF ps.length N.length sm ds S0) (RV ⟨K, cl⟩ Q) := h
    unfold runF at h
    rw [if_pos e, ← e] at h
    cases q : sm (ds.map Sl.val ++ List.replicate (N.length - ds.length) Sl.un) S0 with
    | bad => rw [q] at h; exact h.elim
    | exc c fs ρ' S' =>
      rw [q] at h
      exact fun W' H' σ' own' cls dd l' e' x => h W' H' cls dd e'.le e'.wk e'.st x
    | go fl ρ' S' =>
      rw [q] at h
      intro W' H' σ' own' l' e'
      cases fl with
      | nx => exact h W' H' e'.le e'.wk e'.st _ .non
      | rt d => exact fun v rv => h W' H' e'.le e'.wk e'.st v rv
      | bk => exact h.elim
      | ct => exact h.elim
  have fin : ∀ {σ' : L2.St} {H' : Hp} {v : V} {u : Value}, Inv (cxOf (L2.CX P w) P w K mg base N qual scope f cdv A outer s H E) [] σ' H' s' → RelV v u → Q v H' → CE outer P w H s Q u s' :=
    fun {σ' H' v u} J rv q => ⟨v, H', J.os, J.bare, J.base, J.hok, rv, q⟩
  cases fl with
  | ret u =>
    obtain ⟨v, σ', H', J, rv, q⟩ := hs
    exact fin J rv q
  | next =>
    obtain ⟨σ', H', J, q⟩ := hs
    exact fin (v := V.non) (u := Value.none) J rfl q
  | brk =>
    obtain ⟨_, _, _, q⟩ := hs
    exact False.elim q
  | cont =>
    obtain ⟨_, _, _, q⟩ := hs
    exact False.elim q
theorem fn_DG {x qual : Str} {st : Stmt} {f : Addr} {fd : FuncData} {N ps : List Str} {k : Nat} {body : Sm} (F : Fun K x qual st f fd) (S : FnScope N ps (defScope st))
    (hb : ∀ (cdv : Value) (A : Around) (outer : List PySem.Env) (s : Shared) (H : Hp) (E : XK), (A.deeper (envOfC qual (defScope st) s.heap.objs.size f cdv)).guards = some [] → Room k (A.deeper (envOfC qual (defScope st) s.heap.objs.size f cdv)) → DSs (cxD P w K mg base N qual st f cdv A outer s H E) cl (fun c d _ H => E c d H) (defBody st) body) :
    FnG P w K mg base cl (k + 1) f fd ps (runF ps.length N.length body) := by
  obtain ⟨oc, od, kV, doc, pm, an, cdv, ct, osl, rfl, lk, hcd⟩ := F.ex
  exact fn_Gof lk hcd S fun A outer s H E gu hr => hb cdv A outer s H E gu hr
theorem fn_DGc {x qual : Str} {st : Stmt} {f c : Addr} {fd : FuncData} {N ps : List Str} {k : Nat} {body : Sm} (F : FunC K x qual st f fd c) (S : FnScope N ps (defScope st))
    (hb : ∀ (A : Around) (outer : List PySem.Env) (s : Shared) (H : Hp) (E : XK), (A.deeper (envOfC qual (defScope st) s.heap.objs.size f (.ref c))).guards = some [] → Room k (A.deeper (envOfC qual (defScope st) s.heap.objs.size f (.ref c))) → DSs (cxD P w K mg base N qual st f (.ref c) A outer s H E) cl (fun c d _ H => E c d H) (defBody st) body) :
    FnG P w K mg base cl (k + 1) f fd ps (runF ps.length N.length body) := by
  obtain ⟨oc, od, kV, doc, pm, an, ct, osl, rfl, lk, hcd⟩ := F.ex
  exact fn_Gof lk hcd S fun A outer s H E gu hr => hb A outer s H E gu hr
/-- the def x of the module is worth F where no guard is under way -/
structure CalG (P : Program) (w : World) (K : PySem.W.Frag) (mg : Str → Option Value) (base : Heap) (cl : Cls_) (x : Str) (k : Nat) (ps : List Str) (F : List D → M D) : Prop where
  ex : ∃ f fd, FnG P w K mg base cl k f fd ps F ∧ mg x = some (.ref f) ∧ PySem.W.keepIn K (.ref f) = true ∧ Binds K fd ps []
theorem Fd.calG {x qual : Str} {st : Stmt} {N ps : List Str} {k : Nat} {body : Sm} (F : Fd K mg x qual st ps) (S : FnScope N ps (defScope st))
    (hb : ∀ (f : Addr) (cdv : Value) (A : Around) (outer : List PySem.Env) (s : Shared) (H : Hp) (E : XK), (A.deeper (envOfC qual (defScope st) s.heap.objs.size f cdv)).guards = some [] → Room k (A.deeper (envOfC qual (defScope st) s.heap.objs.size f cdv)) → DSs (cxD P w K mg base N qual st f cdv A outer s H E) cl (fun c d _ H => E c d H) (defBody st) body) :
    CalG P w K mg base cl x (k + 1) ps (runF ps.length N.length body) := by
  obtain ⟨f, fd, F, m, kp, b⟩ := F.ex
  exact ⟨f, fd, fn_DG F S fun cdv A outer s H E gu hr => hb f cdv A outer s H E gu hr, m, kp, b⟩
theorem FdC.calG {x qual : Str} {st : Stmt} {N ps : List Str} {c : Addr} {k : Nat} {body : Sm} (F : FdC K mg x qual st ps c) (S : FnScope N ps (defScope st))
    (hb : ∀ (f : Addr) (A : Around) (outer : List PySem.Env) (s : Shared) (H : Hp) (E : XK), (A.deeper (envOfC qual (defScope st) s.heap.objs.size f (.ref c))).guards = some [] → Room k (A.deeper (envOfC qual (defScope st) s.heap.objs.size f (.ref c))) → DSs (cxD P w K mg base N qual st f (.ref c) A outer s H E) cl (fun c d _ H => E c d H) (defBody st) body) :
    CalG P w K mg base cl x (k + 1) ps (runF ps.length N.length body) := by
  obtain ⟨f, fd, F, m, kp, b⟩ := F.ex
  exact ⟨f, fd, fn_DGc F S fun A outer s H E gu hr => hb f A outer s H E gu hr, m, kp, b⟩
end
section
variable {X : Cx} {cl : Cls_} {E : WX} {k : Nat} {f : Addr} {fd : FuncData} {ps : List Str} {x : Str} {p pos : Pos} {e : Expr} {es : List Expr} {fs : Env → M (List D)} {F : List D → M D}
theorem run_G {pins : List (Addr × Obj)} {σ : L2.St} {H : Hp} {s : Shared} {Q : VK} {us : List Value} {vs : List V} {E : XK} (FF : FnG X.prog X.w X.K X.mg X.base cl k f fd ps F) (gu : X.A.guards = some []) (hr : Room k X.A) (hb : Binds X.K fd ps []) (hx : PassesAt (L2.CX X.prog X.w) X σ E)
    (I : Inv X pins σ H s) (r : Vals vs us) (h : spD ⟨X.K, cl⟩ ps.length F vs H Q E) : wpAny (model X.prog X.w) X.A (call (.ref f) us) (EP X pins σ Q) X.xe s := by
  have hl : us.length = ps.length := by rw [← r.length]; exact spD_len h
  have hl2 : (us ++ []).length = ps.length := by rw [List.append_nil]; exact hl
  have hb2 := hb s us I.kIn hl2
  rw [List.append_nil] at hb2
  refine wpAny_call (codeAny_mono (FF.run X.A X.stack s H ⟨us, []⟩ us vs Q E gu hr I.env0 hb2 r h) fun r s' hq => ?_)
  cases r with
  | error e => exact hx pins H s e s' I hq
  | ok fl =>
    cases fl with
    | ret u => exact I.after hq
    | next => exact False.elim hq
    | brk => exact False.elim hq
    | cont => exact False.elim hq
theorem de_calG {n : Nat} (C : CalG X.prog X.w X.K X.mg X.base cl x k ps F) (gu : X.A.guards = some []) (hr : Room k X.A) (tk : Takes X E) (ha : DA X cl E (e :: es) fs) (hn : ps.length = n := by rfl) (hg : Gl X x := by rfl) (hdb : (x == ("__debug__" : Str)) = false := by decide)
    (he : starEach (e :: es) X.env = (false, eval e X.env) :: starEach es X.env := by rfl) (hpl : (backTo pos (starEach es X.env)).any (·.1) = false := by rfl) : DE X cl E (.Call (.Name x p) (e :: es) [] pos) (cCall n F fs) := by
  obtain ⟨f, fd, G, hm, hk, hb⟩ := C.ex
  subst hn
  refine ⟨fun pins s σ H Q I h => ?_⟩
  refine wpAny_Call_Name_kw (ld_glob I hg hm ?_ hdb)
  have h2 : tA ⟨X.K, cl⟩ E fs σ H (fun vs H1 => spD ⟨X.K, cl⟩ ps.length F vs H1 Q (WE E σ)) := tA_bind h fun W0 H0 W1 H1 S1 ρ own vs ds ev r hh => by
    obtain ⟨c, hh⟩ := po_if hh
    exact ⟨W1, S1, ds, ev.wk, ev.st, r, c, hh.wish fun _ _ _ q => q⟩
  refine PySem.W.callWith_K (h₀ := X.base) I.ok.mod.kin hk (thn (ha.run pos pins s σ H _ I h2) fun us s1 ⟨vs, H1, I1, r, q⟩ => ⟨I1.kIn, ?_⟩) he hpl
  exact run_G G gu hr hb (passAt tk σ) I1 r q
end
end DN
/-! DQe: the end of a law row, for a law that wants that no guard is under way. -/
namespace DN
open PySem PySem.Spec PyProof.Rows L2 LamX
theorem law_callG {P : Program} {w : World} {K : PySem.W.Frag} {mg mb : Str → Option Value} {cl : Cls_} {F0 : List D → M D} {k : Nat} {fa a : Addr} {cs : List (Addr × Addr)} {fd : FuncData} {x : Str} {s₁ : Shared} {vs : List Value} {ns : List Int}
    (KX : K.In s₁.heap) (hns : s₁.heap.Ns mainGlobals mg) (hb : s₁.heap.Ns builtinsNs mb) (hbb : ∀ x : Str, x ≠ "__name__" → mb x = bootBuiltins x) (hlim : s₁.heap.NoLimit) (hg : s₁.gens = #[])
    (hT : ∀ p ∈ cs, s₁.heap.get? p.2 = some { cls := .none, data := .fields #[] }) (nT : ∀ p ∈ cs, K.lookup p.2 = none) (C : ∀ p ∈ cs, PySem.W.CodeHd s₁.heap p.1 p.2)
    (hbm : ∃ (bm : Addr) (ob : Obj), mg "__builtins__" = some (.ref bm) ∧ bm ≠ builtinsNs ∧ s₁.heap.get? bm = some ob ∧ ob.cls = .type "module" ∧ ob.dict = some builtinsNs ∧ ob.data = .plain)
    (ha : s₁.heap.get? a = some { cls := .type "list", data := .seq vs.toArray }) (hi : IntsAre vs ns) (hl : ns.length ≤ sizeLine) (hr : Room k callerA)
    (F : ∀ base : Heap, K.In base → base.Ns mainGlobals mg → (∀ p ∈ cs, TabB base mg p.1 p.2) → FnG P w K mg base cl k fa fd [x] F0) (hbind : ∀ (s : Shared) (u : Value), BindsTo s fd ⟨[u], []⟩ [(x, u)])
    (hsp : ∀ H : Hp, (∀ p ∈ cs, H p.2 = some (.tbl #[])) → SqL K H a (ns.map V.int) → spD ⟨K, cl⟩ 1 F0 [.ref a] H (fun v _ => v = .bl true) fun _ _ _ => False) :
    codeAny (model P w) callerA (.call (.ref fa) ⟨[.ref a], []⟩) (fun r s' => r = .ok (.ret (.bool true)) ∧ OldK s₁.heap s'.heap ∧ s'.os = s₁.os ∧ AllBare s'.gens) s₁ := by
  have rv := vals_ints hi
  have lenV := hi.length
  have isT : ∀ b : Addr, b ∈ cs.map (·.2) → s₁.heap.get? b = some { cls := .none, data := .fields #[] } := fun b hb => by
    obtain ⟨p, hp, e⟩ := List.mem_map.mp hb
    rw [← e]
    exact hT p hp
  have aT : a ∉ cs.map (·.2) := fun z => by
    have q := isT a z
    rw [ha] at q
    have z' : Data.seq vs.toArray _ = Data.fields #[] := congrArg Obj.data (Option.some.inj q)
    cases z'
  have memT : ∀ p ∈ cs, p.2 ∈ cs.map (·.2) := fun p hp => List.mem_map.mpr ⟨p, hp, rfl⟩
  -- from an abstract heap in which nothing but the script and the tables may be tracked
  have core : ∀ H : Hp, (∀ p ∈ cs, H p.2 = some (.tbl #[])) → (∀ b, H b = none ∨ b ∈ cs.map (·.2) ∨ ∃ o xs, H b = some (.frz o (.lst xs))) → SqL K H a (ns.map V.int) → HOk P w H s₁.heap → (∀ b, H b ≠ none → b = a ∨ b ∈ cs.map (·.2)) → (H a ≠ none → K.lookup a = none) →
      codeAny (model P w) callerA (.call (.ref fa) ⟨[.ref a], []⟩) (fun r s' => r = .ok (.ret (.bool true)) ∧ OldK s₁.heap s'.heap ∧ s'.os = s₁.os ∧ AllBare s'.gens) s₁ := by
    intro H hH hO hS hok hA hK
    have base_of : ∀ {b : Addr} {o : Obj}, s₁.heap.get? b = some o → H b = none → (hidT s₁.heap H).get? b = some o := fun e n => hidT_get e n
    have noD : ∀ {b : Addr} {o : Obj}, s₁.heap.get? b = some o → (∀ vs n, o.data ≠ .seq vs n) → o.data ≠ .fields #[] → H b = none := fun {b o} e h1 h2 => by
      cases q : H b with
      | none => rfl
      | some u =>
        rcases hA b (by rw [q]; simp) with e' | e'
        · rw [e', ha] at e
          cases e
          exact (h1 _ _ rfl).elim
        · rw [isT b e'] at e
          cases e
          exact (h2 rfl).elim
    have noA : ∀ {b : Addr} {o : Obj} {es : Array DictEntry} {ep : Nat}, s₁.heap.get? b = some o → o.data = .dict es ep → H b = none := fun {b o es ep} e d => by
      refine noD e (fun vs n z => ?_) fun z => ?_
      · rw [d] at z
        cases z
      · rw [d] at z
        cases z
    have nsK : ∀ {b : Addr} {m : Str → Option Value}, s₁.heap.Ns b m → (hidT s₁.heap H).Ns b m := fun {b m} ⟨o, es, ep, e, d, r⟩ => ⟨o, es, ep, base_of e (noA e d), d, r⟩
    have hKb : K.In (hidT s₁.heap H) := fun b o e => base_of (KX b o e) (by
      cases q : H b with
      | none => rfl
      | some u =>
        rcases hA b (by rw [q]; simp) with e' | e'
        · rw [e'] at e q
          rw [hK (by rw [q]; simp)] at e
          cases e
        · obtain ⟨p, hp, ep⟩ := List.mem_map.mp e'
          rw [← ep, nT p hp] at e
          cases e)
    have hM : L2.Mod K mg (hidT s₁.heap H) := ⟨hKb, nsK hns, ⟨mb, nsK hb, hbb⟩, let ⟨mc, h1, h2⟩ := hlim; ⟨mc, nsK h1, h2⟩⟩
    have TB : ∀ p ∈ cs, TabB (hidT s₁.heap H) mg p.1 p.2 := fun p hp => by
      have hTp := hT p hp
      refine ⟨?_, ?_, fun z => ?_⟩
      · obtain ⟨o, us, file, tf, flags, tg, inF, text, tt, e1, r1, r2, r3, r4, r5, r6, r7, r8, hne⟩ := C p hp
        refine ⟨o, us, file, tf, flags, tg, inF, text, tt, base_of e1 (noD e1 (fun vs n z => ?_) fun z => ?_), r1, r2, r3, r4, r5, r6, r7, r8, hne⟩
        · rw [r2] at z
          cases z
        · rw [r2] at z
          cases z
          simp at r3
      · obtain ⟨bm, ob, b1, b2, b3, b4, b5, b6⟩ := hbm
        have nG : bm ≠ mainGlobals := fun q => by
          obtain ⟨o, es, ep, e, hd, _⟩ := hns
          rw [q, e] at b3
          cases b3
          rw [hd] at b6
          cases b6
        have nP : bm ≠ p.2 := fun q => by
          rw [q, hTp] at b3
          cases b3
          cases b6
        refine ⟨bm, ob, b1, b2, nG, nP, base_of b3 (noD b3 (fun vs n z => ?_) fun z => ?_), b4, b5, b6⟩
        · rw [b6] at z
          cases z
        · rw [b6] at z
          cases z
      · obtain ⟨o, es, ep, e, hd, _⟩ := hns
        rw [z, hTp] at e
        cases e
        cases hd
    have e0 : Env0 P w K mg (hidT s₁.heap H) callerA [] s₁ H := ⟨rfl, hM, fun b o e => of_hidT e, Nat.le_of_eq (hidT_size _ _), trivial, fun b hb => absurd (show b ∈ ([] : List Addr) from hb) (by simp), hok, .of_eq hg⟩
    refine codeAny_mono ((F _ hKb (nsK hns) TB).run callerA [] s₁ H ⟨[.ref a], []⟩ [.ref a] [.ref a] _ _ rfl hr e0 (hbind s₁ (.ref a)) (.cons rfl .nil) (hsp H hH hS)) fun r s' h => ?_
    cases r with
    | error e => exact (no_cx h).elim
    | ok fl =>
      cases fl with
      | next => exact False.elim h
      | brk => exact False.elim h
      | cont => exact False.elim h
      | ret u =>
        obtain ⟨v, H', os, bare, un, hok', r', q⟩ := h
        have q' : v = .bl true := q
        subst q'
        obtain rfl : u = Value.bool true := r'
        have key : ∀ b o, b ∉ cs.map (·.2) → s₁.heap.get? b = some o → s'.heap.get? b = some o := fun b o nb e => by
          cases q : H b with
          | none => exact un.keep b o e q (by intro z; exact absurd (show b ∈ ([] : List Addr) from z) (by simp)) (by simp)
          | some u =>
            rcases hO b with z | z | ⟨ob, xs, z⟩
            · rw [q] at z; cases z
            · exact absurd z nb
            · have z2 := un.frzs b ob _ z
              obtain ⟨e1, _⟩ := hok b _ z
              obtain ⟨e2, _⟩ := hok' b _ z2
              rw [e] at e1; cases e1
              exact e2
        have grown : ∀ p ∈ cs, ∃ more : Array Value, s'.heap.get? p.2 = some { cls := .none, data := .fields more } := fun p hp => by
          obtain ⟨more, z⟩ := un.tbls p.2 #[] (hH p hp)
          exact ⟨_, hok' p.2 _ z⟩
        refine ⟨rfl, ⟨fun b o e => ?_, fun b o e => ?_⟩, os, bare⟩
        · by_cases hb : b ∈ cs.map (·.2)
          · obtain ⟨p, hp, ep⟩ := List.mem_map.mp hb
            obtain ⟨more, hm⟩ := grown p hp
            rw [← ep] at e ⊢
            rw [hT p hp] at e
            cases e
            exact .inr (.inl ⟨((C p hp).tab (hT p hp)).isCodeTable, rfl, #[], more, rfl, by rw [Array.empty_append]; exact hm⟩)
          · exact .inl (key b o hb e)
        · by_cases hb : b ∈ cs.map (·.2)
          · obtain ⟨p, hp, ep⟩ := List.mem_map.mp hb
            obtain ⟨more, hm⟩ := grown p hp
            rw [← ep]
            exact ⟨_, hm⟩
          · exact ⟨o, key b o hb e⟩
  cases hk : K.lookup a with
  | some o =>
    have e := KX a o hk
    rw [ha] at e
    cases e
    refine core (fun b => if b ∈ cs.map (·.2) then some (.tbl #[]) else none) (fun p hp => if_pos (memT p hp)) (fun b => ?_) (.inr ⟨_, vs.toArray, _, hk, rfl, rfl, rfl, by rw [List.size_toArray, lenV]; exact hl, by simpa using rv⟩) (fun b u z => ?_) (fun b z => ?_) fun z => absurd (show (if a ∈ cs.map (·.2) then some (HO.tbl #[]) else none) = none from if_neg aT) z
    · by_cases hb : b ∈ cs.map (·.2)
      · exact .inr (.inl hb)
      · exact .inl (if_neg hb)
    · by_cases hb : b ∈ cs.map (·.2)
      · have z' := (if_pos hb).symm.trans z
        cases z'
        exact isT b hb
      · have z' := (if_neg hb).symm.trans z
        cases z'
    · by_cases hb : b ∈ cs.map (·.2)
      · exact .inr hb
      · exact absurd (if_neg hb) z
  | none =>
    refine core (fun b => if b = a then some (.frz { cls := .type "list", data := .seq vs.toArray } (.lst (ns.map V.int))) else if b ∈ cs.map (·.2) then some (.tbl #[]) else none) (fun p hp => (if_neg (show ¬ p.2 = a from fun z => aT (by rw [← z]; exact memT p hp))).trans (if_pos (memT p hp))) (fun b => ?_)
      (.inl (.inr ⟨{ cls := .type "list", data := .seq vs.toArray }, if_pos rfl⟩)) (fun b u z => ?_) (fun b z => ?_) fun _ => hk
    · by_cases hb : b = a
      · exact .inr (.inr ⟨_, _, if_pos hb⟩)
      · by_cases hb2 : b ∈ cs.map (·.2)
        · exact .inr (.inl hb2)
        · exact .inl ((if_neg hb).trans (if_neg hb2))
    · by_cases hb : b = a
      · have z' := (if_pos hb).symm.trans z
        cases z'
        rw [hb]
        exact ⟨ha, by rw [List.length_map]; exact hl, vs, _, rv, ha⟩
      · have z1 := (if_neg hb).symm.trans z
        by_cases hb2 : b ∈ cs.map (·.2)
        · have z' := (if_pos hb2).symm.trans z1
          cases z'
          exact isT b hb2
        · have z' := (if_neg hb2).symm.trans z1
          cases z'
    · by_cases hb : b = a
      · exact .inl hb
      · by_cases hb2 : b ∈ cs.map (·.2)
        · exact .inr hb2
        · exact absurd ((if_neg hb).trans (if_neg hb2)) z
/-- what the law's module gives: the tables of its defs are empty -/
theorem walk_DG {l : PySem.W.OpenLaw} {n k : Nat} {q : Program} {loose : List Str} {XP : (Str → Option Value) → Heap → Prop} {YP : World → Heap → Prop} {d : DefRec} {K : Params → PySem.W.Frag} {F : List D → M D} (hn : l.most = some n) (hn2 : n ≤ sizeLine) (hdf : d.params.defaults = []) (hr : Room k callerA)
    (hY : ∀ (w : World) (h : Heap), YP w h → (K w.params).In h) (main : ∀ ns : List Int, ns.length ≤ n → ∃ S', F [.scr ns] [] = .ok (.bl true) S')
    (FF : ∀ (w : World) (mg : Str → Option Value) (fa : Addr) (h : Heap), (K w.params).In h → h.Ns mainGlobals mg → mg d.name = some (.ref fa) →
      (∀ (nm : Str) (f : Addr), ((recsOf q).any fun e => e.name == nm) = true → mg nm = some (.ref f) → OwnTab (K w.params) f h) →
      ∃ (fd : FuncData) (cs : List (Addr × Addr)) (cl : Cls_), (∀ p ∈ cs, h.get? p.2 = some { cls := .none, data := .fields #[] }) ∧ (∀ p ∈ cs, (K w.params).lookup p.2 = none) ∧ (∀ p ∈ cs, PySem.W.CodeHd h p.1 p.2) ∧ (∀ p ∈ cl.T, p.1 ∈ cs.map (·.2)) ∧
        (∀ (s : Shared) (u : Value), BindsTo s fd ⟨[u], []⟩ [("script", u)]) ∧ ∀ base : Heap, (K w.params).In base → base.Ns mainGlobals mg → (∀ p ∈ cs, TabB base mg p.1 p.2) → FnG l.prog w (K w.params) mg base cl k fa fd ["script"] F) :
    PySem.W.WalkO q loose XP YP l.row.toRowW d [] (fun f vs => PySem.call f vs) := by
  refine Att.attach_callB hn hdf fun w s₀ s₁ mg mb fa o pm cd doc a vs ns G Y ho hd hcd hmg hobj hints hlen hbits hg => ?_
  have KX := hY w _ Y
  have own : ∀ (nm : Str) (f : Addr), ((recsOf q).any fun e => e.name == nm) = true → mg nm = some (.ref f) → OwnTab (K w.params) f s₁.heap := by
    intro nm f hrec hnm c P o1 fd1 e dd vs1 sl k1 k2 k3 k4 k5
    obtain ⟨dL, hm, he⟩ := List.any_eq_true.mp hrec
    obtain ⟨a', o', fd', c', P', g1, g2, g3, g4, g5, ⟨oc, vc, u1, _, u3, u4⟩, hP⟩ := G.T.tab dL hm
    rw [beq_iff_eq.mp he, hnm] at g1
    cases g1
    have v1 := KX _ _ k1
    rw [v1] at g2
    cases g2
    rw [k2] at g3
    cases g3
    rw [k3] at g4
    cases g4
    have v2 := KX _ _ k4
    rw [v2] at u1
    cases u1
    cases u3
    rw [k5] at u4
    cases u4
    exact hP
  obtain ⟨fd, cs, cl, h1, h2, h3, h4, h5, h6⟩ := FF w mg fa _ KX G.T.g hmg own
  exact law_callG KX G.T.g G.T.b G.T.builtins G.T.nolimit hg h1 h2 h3 G.T.bmain hobj hints (Nat.le_trans hlen hn2) hr h6 h5 fun H hH hS => law_spT h4 main hlen hH hS
end DN
/-! DE1: making exceptions of own classes with an own __init__, over any built-in base; the model's side. -/
namespace DN.XM
open PySem PySem.Spec PySem.W PySem.Calls PyProof.Rows PySem.HandSPX Builtin Builtin.ObjectAttr
/-- what the built-in makers tell: newId (of the class B) makes, initId (of the class B2) lays the args; bm: what stands behind the class in its mro -/
structure XB (B newId B2 initId : String) (bm : List Value) : Prop where
  ends : newId.endsWith ".__new__" = true
  owner : newId.dropRight 8 = B
  entry : entryFor table newId = some Builtin.«BaseException.__new__»
  quiet : newId.startsWith "lifetime." = false
  newSplit : splitId newId = some (B, "__new__")
  newKind : builtinKind newId = some .builtinFn
  newRow : Manifest.signature? newId = some ⟨.any, B, B, .cls, [⟨"args", .varPos, false⟩, ⟨"kwargs", .varKw, false⟩]⟩
  canon : Manifest.canonical newId = Manifest.canonical "BaseException.__new__"
  star : (B != "*") = true
  plain : plainId initId = true
  initEntry : entryFor table initId = some Builtin.«BaseException.__init__»
  initSplit : splitId initId = some (B2, "__init__")
  initKind : builtinKind initId = some .slot
  initRow : Manifest.signature? initId = some ⟨.positional, "*", B2, .self, [⟨"args", .varPos, false⟩]⟩
  star2 : (B2 != "*") = true
  hB : bm.contains (.type B) = true
  hB2 : bm.contains (.type B2) = true
  noAttr : bm.contains (.type "AttributeError") = false
  noName : bm.contains (.type "NameError") = false
  ob : bm.contains (.type "object") = true
  pass : ∀ self : Value, refuseLoop self "__setattr__" bm = pure ()
theorem XB.ref {B newId B2 initId : String} {bm : List Value} (x : XB B newId B2 initId bm) (c : Addr) : XB B newId B2 initId (.ref c :: bm) :=
  { x with
    hB := by rw [List.contains_cons, x.hB, Bool.or_true]
    hB2 := by rw [List.contains_cons, x.hB2, Bool.or_true]
    noAttr := by rw [List.contains_cons, x.noAttr]; rfl
    noName := by rw [List.contains_cons, x.noName]; rfl
    ob := by rw [List.contains_cons, x.ob, Bool.or_true]
    pass := fun self => by rw [refuseLoop_ref]; exact x.pass self }
section
variable {M : Model} {A : Around} {E : Value → Shared → Prop} {h : Heap} {g : Array GenState} {d : Drawn} {t : Nat} {os : OsState}
variable {nm q : Str} {C N : Addr} {bs bm : List Value} {hdct : Bool} {sn : List Str} {sub : List Value} {ab : Bool} {col : Option Bool} {dd : Option Addr} {k0 k1 k2 k3 k5 : Option Value} {B newId B2 initId : String}
theorem check_new (F : XB B newId B2 initId bm) {rest : List Value} {Q : Unit → Shared → Prop}
    (hC : h.get? C = some (excClassObj nm q C N bs bm hdct sn sub ab col dd k0 k1 k2 k3 k5 newId)) (hq : Q () ⟨h, g, d, t, os⟩) : wpAny M A (checkBuiltinCall newId ⟨.ref C :: rest, []⟩) Q E ⟨h, g, d, t, os⟩ := by
  have hcont : (Value.ref C :: bm).contains (.type B) = true := by rw [List.contains_cons, F.hB, Bool.or_true]
  have hstar := F.star
  simp only [checkBuiltinCall, F.newKind, F.newSplit, F.newRow]
  repeat (first | refine wpAny_loadPart_at hC ?_ | (refine wpAny_isSubtype_exc hC ?_; rw [hcont]) | refine wpAny_staticBase_exc hC ?_ | refine wpAny_madeBy_exc hC ?_ | simp only [bne_self_eq_false, Bool.false_eq_true, if_false] | wp_step)
  exact hq
theorem check_init (F : XB B newId B2 initId bm) {e : Addr} {oe : Obj} {rest : List Value} {Q : Unit → Shared → Prop}
    (hC : h.get? C = some (excClassObj nm q C N bs bm hdct sn sub ab col dd k0 k1 k2 k3 k5 newId)) (he : h.get? e = some oe) (hcls : oe.cls = .ref C) (hq : Q () ⟨h, g, d, t, os⟩) :
    wpAny M A (checkBuiltinCall initId ⟨.ref e :: rest, []⟩) Q E ⟨h, g, d, t, os⟩ := by
  have hcB : (Value.ref C :: bm).contains (.type B2) = true := by rw [List.contains_cons, F.hB2, Bool.or_true]
  have hshort := F.star2
  simp only [checkBuiltinCall, F.initKind, F.initSplit, F.initRow]
  repeat (first | (with_reducible refine wpAny_loadPart_at he ?_; rw [hcls]) | with_reducible refine wpAny_loadPart_at hC ?_ | (with_reducible refine wpAny_isSubtype_exc hC ?_; rw [hcB]) | wp_step)
  refine wpAny_onRaise ?_
  rw [show ∀ (a b : String) (n : Nat), Bind.check ⟨.positional, "*", B2, .self, [⟨"args", .varPos, false⟩]⟩ a b n (List.map (fun x => x.fst) ({ pos := Value.ref e :: rest } : Args).kw) = pure () from
    fun a b n => check_star_args _ _ _ _ _ _]
  exact wpAny_pure hq
end
section
variable {prog : Program} {w : World} {A : Around} {E : Value → Shared → Prop} {R : Result → Shared → Prop} {h : Heap} {g : Array GenState} {d : Drawn} {t : Nat} {os : OsState}
variable {nm q : Str} {C N : Addr} {bs bm : List Value} {hdct : Bool} {sn : List Str} {sub : List Value} {ab : Bool} {col : Option Bool} {dd : Option Addr} {k0 k1 k2 k3 k5 : Option Value} {B newId B2 initId : String}
theorem new_x (F : XB B newId B2 initId bm) {rest : List Value}
    (hC : h.get? C = some (excClassObj nm q C N bs bm hdct sn sub ab col dd k0 k1 k2 k3 k5 newId))
    (hq : R (.ok (.ret (.ref (h.objs.size + 1)))) ⟨(h.push { cls := .type "tuple", data := .seq rest.toArray }).push
      { cls := .ref C, data := .fields #[.ref h.objs.size, .none, .none, .none, .bool false, .none] }, g, d, t, os⟩) (hrest : rest.length ≤ sizeLine) :
    codeAny (model prog w) A (.builtin newId ⟨.ref C :: rest, []⟩) R ⟨h, g, d, t, os⟩ := by
  have hends := F.ends
  have hcB : (Value.ref C :: bm).contains (.type B) = true := by rw [List.contains_cons, F.hB, Bool.or_true]
  have hcA : (Value.ref C :: bm).contains (.type "AttributeError") = false := by rw [List.contains_cons, F.noAttr]; rfl
  have hcN : (Value.ref C :: bm).contains (.type "NameError") = false := by rw [List.contains_cons, F.noName]; rfl
  refine codeAny_builtinAt F.entry ?_
  unfold Builtin.«BaseException.__new__»
  refine PySem.wpAt_bind ?_
  show PySem.wpAt _ _ _ (stack >>= _) _ _ _
  refine PySem.wpAt_bind (PySem.wpAt_stack fun p below => PySem.wpAt_of_wpAny ?_)
  wp_walk
  refine PySem.wpAt_of_wpAny ?_
  rw [F.owner]
  repeat (first | with_reducible refine wpAny_madeHere_exc F.canon hC ?_ | with_reducible refine wpAny_loadPart_at hC ?_ | (with_reducible refine wpAny_isSubtype_exc hC ?_; first | rw [hcB] | rw [hcA] | rw [hcN]) | wp_step)
  show R _ _
  rw [Heap.size_push]
  exact hq
theorem type_call_x (F : XB B newId B2 initId bm) {rest : List Value} {fI : Addr} {Q : Fin → Shared → Prop}
    (hC : h.get? C = some (excClassObj nm q C N bs bm hdct sn sub ab col dd k0 k1 k2 k3 k5 newId))
    (hi : W.Looks (model prog w) h (typeLookup (.ref C) "__init__") (some (.ref fI))) (hb : ∀ self, W.Looks (model prog w) h (bindSpecial (.ref fI) self) (.ref fI, [self])) (hrest : rest.length ≤ sizeLine)
    (hq : codeAny (model prog w) A (.call (.ref fI) ⟨.ref (h.objs.size + 1) :: rest, []⟩)
      (fun r s' => match r with | .ok (.ret v) => v = .none ∧ Q (.done (.ret (.ref (h.objs.size + 1)))) s' | .ok _ => False | .error e => E e s')
      ⟨(h.push (W.kdv_tup rest)).push (excO C h.objs.size), g, d, t, os⟩) :
    wpAny (model prog w) A (Builtin.«type.__call__» ⟨.ref C :: rest, []⟩) Q E ⟨h, g, d, t, os⟩ := by
  repeat (first | with_reducible refine wpAny_loadPart_at hC ?_ | with_reducible refine wpAny_madeBy_exc hC ?_ | wp_step)
  refine codeAny_call_builtin_code (Code.quiet_builtin _ F.quiet) (check_new F hC ?_)
  refine new_x F hC ?_ hrest
  show wpAny _ _ _ _ _ _
  have k : ∀ b o, h.get? b = some o → ((h.push (W.kdv_tup rest)).push (excO C h.objs.size)).get? b = some o := fun b o e => Heap.get?_push_of_some _ (Heap.get?_push_of_some _ e)
  have hC₁ := k _ _ hC
  have hget : ((h.push (W.kdv_tup rest)).push (excO C h.objs.size)).get? (h.objs.size + 1) = some (excO C h.objs.size) := by heap_get
  have hcC : (Value.ref C :: bm).contains (.ref C) = true := by simp
  have i1 := hi.keeps k
  have b1 := (hb (.ref (h.objs.size + 1))).keeps k
  unfold isInstance
  repeat (first | with_reducible refine wpAny_loadPart_at hget ?_ | (with_reducible refine wpAny_isSubtype_exc hC₁ ?_; rw [hcC]) | wp_step)
  show wpAny _ _ (typeLookup (.ref C) _) _ _ _
  refine i1.at ?_
  refine wpAny_holding (wpAny_bind (b1.at ?_))
  refine wpAny_bind (wpAny_call (codeAny_mono hq fun r s' z => ?_))
  rcases r with e | (v | _ | _ | _) <;> first | exact z | exact z.elim | skip
  obtain ⟨rfl, z⟩ := z
  first
    | exact wpAny_pure (wpAny_pure z)
    | (wp_walk; exact z)
theorem call_x (F : XB B newId B2 initId bm) {rest : List Value} {fI : Addr}
    (hC : h.get? C = some (excClassObj nm q C N bs bm hdct sn sub ab col dd k0 k1 k2 k3 k5 newId))
    (hi : W.Looks (model prog w) h (typeLookup (.ref C) "__init__") (some (.ref fI))) (hb : ∀ self, W.Looks (model prog w) h (bindSpecial (.ref fI) self) (.ref fI, [self])) (hrest : rest.length ≤ sizeLine)
    (hq : codeAny (model prog w) (A.under (.builtin "type.__call__" ⟨.ref C :: rest, []⟩)) (.call (.ref fI) ⟨.ref (h.objs.size + 1) :: rest, []⟩) (W.InitBack (h.objs.size + 1) R)
      ⟨(h.push (W.kdv_tup rest)).push (excO C h.objs.size), g, d, t, os⟩) :
    codeAny (model prog w) A (.call (.ref C) ⟨rest, []⟩) R ⟨h, g, d, t, os⟩ := by
  have f1 := tc_lookup
  have f2 := tc_bind (.ref C)
  have hTy : (⟨h, g, d, t, os⟩ : Shared).TypeIs (.ref C) "type" := ⟨_, hC, rfl⟩
  refine codeAny_of_tree ?_
  show wpAny _ _ (callAny (.ref C) _) _ _ _
  repeat (any_goals (first | assumption | with_reducible refine wpAny_loadPart_at hC ?_ | wp_step))
  refine ⟨rfl, ?_⟩
  refine codeAny_call_builtin_at (Code.quiet_builtin _ (by decide +kernel)) entry_typeCall (wpAny_check_type_call_sub hC (type_call_x F hC hi hb hrest ?_))
  refine codeAny_mono hq fun r s' z => ?_
  rcases r with e | (v | _ | _ | _) <;> exact z
theorem init_x (F : XB B newId B2 initId bm) {e t0 : Addr} {rest : List Value}
    (hC : h.get? C = some (excClassObj nm q C N bs bm hdct sn sub ab col dd k0 k1 k2 k3 k5 newId)) (he : h.get? e = some (excO C t0)) (hrest : rest.length ≤ sizeLine)
    (hq : ∀ h' t1, (∀ b o, b ≠ e → h.get? b = some o → h'.get? b = some o) → h'.get? e = some (excO C t1) → R (.ok (.ret .none)) ⟨h', g, d, t, os⟩) :
    codeAny (model prog w) A (.call (.builtin initId) ⟨.ref e :: rest, []⟩) R ⟨h, g, d, t, os⟩ := by
  refine codeAny_call_builtin F.plain F.initEntry (check_init F hC he rfl ?_)
  wp_walk
  refine hq _ h.objs.size (fun b o hb ho => ?_) ?_
  · rw [Heap.get?_update_other _ _ (Ne.symm hb)]
    exact Heap.get?_push_of_some _ ho
  · rw [Heap.get?_update_self _ (Heap.get?_push_of_some _ he) rfl]
    rfl
end
section
variable {prog : Program} {w : World} {A : Around} {E : Value → Shared → Prop} {R : Result → Shared → Prop} {hp : Heap} {g : Array GenState} {d : Drawn} {t : Nat} {os : OsState}
/-- self.name = v, the first one -/
theorem osa_x {K : W.Frag} {name : Str} {tk : Tok} {v : Value} {x C : Addr} {fv : Array Value} {cd : ClassData}
    (X : K.In hp) (hx : hp.get? x = some { cls := .ref C, data := .fields fv }) (hcd : W.clsIn K C = some cd) (ne : cd.mro.isEmpty = false) (hob : cd.mro.contains (.type "object") = true) (pass : ∀ self : Value, refuseLoop self "__setattr__" cd.mro = pure ()) (hh : cd.hasDict = true) (ha : W.findIn K (.ref C) name = some none)
    (hq : ∀ h' tk' dx, (∀ b o, b ≠ x → hp.get? b = some o → h'.get? b = some o) → hp.objs.size ≤ dx → dx ≠ x → h'.get? x = some { cls := .ref C, dict := some dx, data := .fields fv } →
      h'.Ns1 dx (fun y => if y = name then some v else none) → R (.ok (.ret .none)) ⟨h', g, d, tk', os⟩) :
    codeAny (model prog w) A (.call (.builtin "object.__setattr__") ⟨[.ref x, .str name tk, v], []⟩) R ⟨hp, g, d, t, os⟩ := by
  have I : W.InstAt hp x { cls := .ref C, data := .fields fv } C none := ⟨hx, rfl, rfl, trivial⟩
  have SF := F.store_object
  have hxs : x ≠ hp.objs.size := Nat.ne_of_lt (Heap.lt_size hx)
  have sub : W.Looks (model prog w) hp (isInstance (.ref x) (.type "object")) true := I.type.andThen (W.looks_mroIn X (by unfold W.mroIn; rw [hcd, Option.bind_some, if_neg (by rw [ne]; decide), hob]))
  refine codeAny_call_builtin SF.slot.plain SF.entry (@W.check_slot (model prog w) _ _ ⟨hp, g, d, t, os⟩ "object.__setattr__" "object" "__setattr__" (.ref x) [.str name tk, v] [] _ SF.kind SF.split sub (SF.args (.ref x) (.str name tk) v) ?_)
  have hmr : W.Looks (model prog w) hp (mroOf (.ref C)) cd.mro := (W.looks_clsIn X hcd).andThen .now
  have L3 : W.Looks (model prog w) hp (storeTaker? none) none := .now
  have hcls : W.Looks (model prog w) hp (classData C) cd := W.looks_clsIn X hcd
  rw [W.osa_eq, refuse_eq]
  refine wpAny_bind (wpAny_bind (I.type.at (wpAny_bind (hmr.at ?_))))
  rw [pass]
  refine wpAny_pure (wpAny_bind (I.type.at (wpAny_bind ((W.looks_findIn X ha).at (wpAny_bind (L3.at ?_))))))
  show wpAny _ _ (storeInOwnDict (.ref x) (.ref C) (.str name tk) name v false) _ _ _
  obtain ⟨nm, bs, mro, ns, qn, hd, sn, sb, ab, col, del⟩ := cd
  dsimp only at hh
  subst hh
  unfold storeInOwnDict ownDictForStores
  repeat (first | with_reducible refine store_in_new ?_ ?_ | with_reducible refine wpAny_loadPart_at hx ?_ | with_reducible refine hcls.at ?_ | wp_step)
  · exact ⟨_, #[], _, (Heap.get?_update_ne _ _ _ _ hxs.symm).trans (Heap.get?_push_at rfl rfl), rfl, fun e he => absurd he (by simp), fun _ => rfl⟩
  · intro h' tk' hn' hs
    have hx₁ : (hp.push { cls := .type "dict", data := .dict #[] }).get? x = some { cls := .ref C, data := .fields fv } := Heap.get?_push_of_some _ hx
    refine hq h' tk' hp.objs.size (fun b o hb ho => ?_) (Nat.le_refl _) hxs.symm ?_ hn'
    · exact (hs.2 b (Nat.ne_of_lt (Heap.lt_size ho))).trans ((Heap.get?_update_ne _ _ _ _ hb).trans (Heap.get?_push_of_some _ ho))
    · exact (hs.2 x hxs).trans (Heap.get?_update_self _ hx₁ rfl)
end
/-! ### the bases -/
theorem xb_of {B newId initId : String} {bm : List Value} (F : ExcBaseFacts B newId initId bm) (ob : bm.contains (.type "object") = true) (pass : ∀ self : Value, refuseLoop self "__setattr__" bm = pure ()) : XB B newId B initId bm where
  ends := F.ends
  owner := F.owner
  entry := F.entry
  quiet := F.quiet
  newSplit := F.newSplit
  newKind := F.newKind
  newRow := F.newRow
  canon := F.canon
  star := F.noStar
  plain := F.init.plain
  initEntry := F.initEntry
  initSplit := F.initSplit
  initKind := F.initKind
  initRow := F.initRow
  star2 := F.noStar
  hB := F.hasB
  hB2 := F.hasB
  noAttr := F.noAttr
  noName := F.noName
  ob := ob
  pass := pass
theorem xb_VE : XB "ValueError" "ValueError.__new__" "ValueError" "ValueError.__init__" [.type "ValueError", .type "Exception", .type "BaseException", .type "object"] := xb_of F.excBase_ValueError (by decide +kernel) fun self => by kernel_rfl
theorem xb_IE : XB "IndexError" "IndexError.__new__" "IndexError" "IndexError.__init__" [.type "IndexError", .type "LookupError", .type "Exception", .type "BaseException", .type "object"] := xb_of F.excBase_IndexError (by decide +kernel) fun self => by kernel_rfl
theorem xb_LE : XB "LookupError" "LookupError.__new__" "LookupError" "LookupError.__init__" [.type "LookupError", .type "Exception", .type "BaseException", .type "object"] := xb_of F.excBase_LookupError (by decide +kernel) fun self => by kernel_rfl
theorem xb_AE : XB "ArithmeticError" "ArithmeticError.__new__" "ArithmeticError" "ArithmeticError.__init__" [.type "ArithmeticError", .type "Exception", .type "BaseException", .type "object"] := xb_of F.excBase_ArithmeticError (by decide +kernel) fun self => by kernel_rfl
theorem xb_OE : XB "OverflowError" "OverflowError.__new__" "OverflowError" "OverflowError.__init__" [.type "OverflowError", .type "ArithmeticError", .type "Exception", .type "BaseException", .type "object"] := xb_of F.excBase_OverflowError (by decide +kernel) fun self => by kernel_rfl
theorem xb_KE : XB "LookupError" "LookupError.__new__" "KeyError" "KeyError.__init__" [.type "KeyError", .type "LookupError", .type "Exception", .type "BaseException", .type "object"] :=
  have F := F.excBase_LookupError
  have G := excClass_KeyError
  { ends := F.ends, owner := F.owner, entry := F.entry, quiet := F.quiet, newSplit := F.newSplit, newKind := F.newKind, newRow := F.newRow, canon := F.canon, star := F.noStar
    plain := G.init.plain, initEntry := G.initEntry, initSplit := G.initSplit, initKind := G.initKind, initRow := G.initSig, star2 := by decide +kernel
    hB := by decide +kernel, hB2 := by decide +kernel, noAttr := by decide +kernel, noName := by decide +kernel, ob := by decide +kernel, pass := fun self => by kernel_rfl }
end DN.XM
/-! DE2: exceptions of own classes as values: making, reading a field. -/
namespace DN
open PySem PySem.Spec PyProof.Rows L2 XM
/-- what the written part says of such a class -/
structure OxC (K : PySem.W.Frag) (C : Addr) (initId : String) : Prop where
  cls : ∃ nm q N bs bm sn sub ab col dd k0 k1 k2 k3 k5 B newId B2, K.lookup C = some (excClassObj nm q C N bs bm true sn sub ab col dd k0 k1 k2 k3 k5 newId) ∧ XB B newId B2 initId bm
  sa : PySem.W.findIn K (.ref C) "__setattr__" = some (some (.builtin "object.__setattr__"))
section
variable {X : Cx} {pins : List (Addr × Obj)} {σ : L2.St} {H : Hp} {s : Shared} {a C dx : Addr} {f : Str} {y : V} {u : Value} {fs : List (Str × V)} {E : Value → Shared → Prop} {A : Around} {initId : String}
theorem oxinit_ok {us : List Value} {Q : Value → Shared → Prop} (T : OxC X.K C initId) (I : Inv X pins σ H s) (e : H a = some (exo a C none)) (hl : us.length ≤ sizeLine) (h : ∀ s', Inv X pins σ H s' → Q .none s') :
    wpAny (model X.prog X.w) A (call (.builtin initId) (.ref a :: us)) Q E s := by
  obtain ⟨nm, q, N, bs, bm, sn, sub, ab, col, dd, k0, k1, k2, k3, k5, B, newId, B2, hC, xb⟩ := T.cls
  obtain ⟨t1, ho⟩ := exo_at I.hok e
  obtain ⟨hp, g, d, t, os⟩ := s
  refine wpAny_call (init_x xb (I.kIn _ _ hC) ho hl fun h' t2 k hx => ?_)
  have J := I.write (t' := t) (x := a) (e := a) (o := exo a C none) (by rw [e]; exact True.intro) (.inl rfl) k ⟨_, hx⟩ (exo_ok hx)
  have eu : upd H a (exo a C none) = H := by
    funext b
    by_cases hb : b = a
    · rw [hb, upd_same, e]
    · rw [upd_ne hb]
  rw [eu] at J
  exact h _ J
theorem oxst_ok {Q : Unit → Shared → Prop} (T : OxC X.K C initId) (I : Inv X pins σ H s) (e : H a = some (exo a C none)) (hno : PySem.W.findIn X.K (.ref C) f = some none) (ry : RelV y u)
    (h : ∀ dx s', H dx = none → dx ≠ a → Inv X pins σ (upd (upd H dx (exd dx [(f, y)])) a (exo a C (some dx))) s' → Q () s') : wpAny (model X.prog X.w) A (setAttr (.ref a) f u) Q E s := by
  obtain ⟨nm, q, N, bs, bm, sn, sub, ab, col, dd, k0, k1, k2, k3, k5, B, newId, B2, hC, xb⟩ := T.cls
  have hcl : PySem.W.clsIn X.K C = some { name := nm, bases := bs, mro := .ref C :: bm, ns := N, qualname := q, hasDict := true, slotNames := sn, subclasses := sub, abstract := ab, collection := col, hasDel := false } := by unfold PySem.W.clsIn; rw [hC] <;> rfl
  obtain ⟨t1, ho⟩ := exo_at I.hok e
  obtain ⟨hp, g, d, t, os⟩ := s
  refine PySem.W.set_plain I.kIn (ox := { cls := .ref C, dict := none, data := .fields #[.ref t1, .none, .none, .none, .bool false, .none] }) (od := none) ⟨ho, rfl, rfl, trivial⟩ T.sa ?_
  refine osa_x I.kIn ho hcl rfl (xb.ref C).ob (xb.ref C).pass rfl hno (fun h' tk' dx k dn dne hx hn => ?_)
  have hnd : H dx = none := I.hok.fresh dn
  have nd : ∀ {b : Addr} {o : Obj}, hp.get? b = some o → b ≠ dx := fun {b o} q => Nat.ne_of_lt (Nat.lt_of_lt_of_le (Heap.lt_size q) dn)
  have na : ∀ {b : Addr}, H b = none → b ≠ a := fun {b} n z => by
    rw [z, e] at n
    cases n
  have Un1 : Un X.fs [] H (upd (upd H dx (exd dx [(f, y)])) a (exo a C (some dx))) hp h' := {
    keep := fun b o q n _ _ => k b o (na n) q
    slot := fun b o q n _ _ => ⟨o.slots, k b o (na n) q⟩
    free := fun b o q n _ => by rw [upd_ne (na n), upd_ne (nd q)]; exact n
    there := fun b o q _ => by
      by_cases hb : b = a
      · exact ⟨_, by rw [hb]; exact hx⟩
      · exact ⟨o, k b o hb q⟩
    tups := fun b xs q => by rw [upd_ne (at_ne e q exo_tup), upd_ne (ne_of_none q hnd)]; exact q
    frzs := fun b o v q => by rw [upd_ne (at_ne e q exo_frz), upd_ne (ne_of_none q hnd)]; exact q
    tbls := fun b ps q => ⟨#[], by rw [upd_ne (at_ne e q exo_tbl), upd_ne (ne_of_none q hnd), q]; simp⟩ }
  refine h dx _ hnd dne (I.un (t' := tk') Un1 fun b o q => ?_)
  by_cases hb : b = a
  · subst hb
    rw [upd_same] at q
    cases q
    exact exo_ok hx
  · rw [upd_ne hb] at q
    by_cases hd : b = dx
    · subst hd
      rw [upd_same] at q
      cases q
      exact exd_ok hn (relO_put (fs := []) ry fun g => True.intro)
    · rw [upd_ne hd] at q
      exact (I.hok b o q).stay (fun c v hc z => k c v (by
          rcases hc with hc | hc
          · rw [hc]
            exact hb
          · exact at_ne e hc exo_own) z)
        (fun c hc => by rw [upd_ne (at_ne e hc exo_own), upd_ne (ne_of_none hc hnd)]; exact hc) (fun c xs hc => by rw [upd_ne (at_ne e hc exo_tup), upd_ne (ne_of_none hc hnd)]; exact hc)
end
/-- B.__init__(self, ..): nothing of it is told -/
def tXI (K : PySem.W.Frag) (initId : String) (ta : TA) : TE := fun σ H Q => ta σ H fun vs H1 => ∃ (a C : Addr) (ws : List V), vs = .ref a :: ws ∧ ws.length ≤ 1000 ∧ OxC K C initId ∧ H1 a = some (exo a C none) ∧ Q .non H1
def tXst (K : PySem.W.Frag) (initId : String) (f : Str) (to te : TE) : TS := fun D σ H => te σ H fun y H1 => to σ H1 fun x H2 => ∃ a C : Addr, x = .ref a ∧ OxC K C initId ∧ PySem.W.findIn K (.ref C) f = some none ∧ H2 a = some (exo a C none) ∧ ∀ dx, H2 dx = none → dx ≠ a → D.nx σ (upd (upd H2 dx (exd dx [(f, y)])) a (exo a C (some dx)))
/-- where the name of the base leads -/
structure BaseI (K : PySem.W.Frag) (mg : Str → Option Value) (x : Str) (initId : String) : Prop where
  h : PySem.W.handedIn (.builtin initId) = true
  ex : (∃ T : String, mg x = none ∧ bootBuiltins x = some (.type T) ∧ typeOf (.type T) = pure (.type "type") ∧ Manifest.isStub T = false ∧ PySem.W.findCls K (.type T) (.type "type") "__init__" = some (.val (.builtin initId)) ∧ x ≠ "__name__") ∨
    ∃ CB : Addr, mg x = some (.ref CB) ∧ PySem.W.specialIn K (.ref CB) "__getattribute__" = some (some (.builtin "type.__getattribute__")) ∧ PySem.W.readsIn K CB (.type "type") = true ∧ PySem.W.findCls K (.ref CB) (.type "type") "__init__" = some (.val (.builtin initId))
section
variable {X : Cx} {o e : Expr} {es : List Expr} {to te : TE} {ta : TA} {f x : Str} {p p' p1 p2 pos : Pos} {initId : String}
theorem pe_baseI {pl : Sem Bool} (hg : Gl X x) (B : BaseI X.K X.mg x initId) (ha : PA X (e :: es) ta) (hdb : (x == ("__debug__" : Str)) = false := by decide)
    (hc : eval (.Call (.Attribute (.Name x p1) "__init__" p2) (e :: es) [] pos) X.env = (do
      let ov ← eval (.Name x p1) X.env
      standAt p2.atName
      let (f, first) ← holding [ov] (getMethod ov "__init__" pl)
      callWith pos f first (backTo pos (starEach (e :: es) X.env)) (backToKw pos (keywordEach [] X.env))) := by rfl)
    (he : starEach (e :: es) X.env = (false, eval e X.env) :: starEach es X.env := by rfl) (hpl : (backTo pos (starEach es X.env)).any (·.1) = false := by rfl) :
    PE X (.Call (.Attribute (.Name x p1) "__init__" p2) (e :: es) [] pos) (tXI X.K initId ta) := by
  refine ⟨fun pins s σ H Q I h => ?_⟩
  have fin : ∀ s0 : Shared, Inv X pins σ H s0 → wpAny (model X.prog X.w) X.A (callWith pos (Value.builtin initId) [] (backTo pos (starEach (e :: es) X.env)) []) (EP X pins σ Q) X.xe s0 := by
    intro s0 I0
    refine PyProof.Rows.callWith_method1 (thn (ha.run pos pins _ σ H _ I0 h) fun us s1 ⟨vs, H1, I1, r1, a, C, ws, ev, hl, T, ea, q⟩ => ?_) he hpl
    subst ev
    cases r1 with
    | @cons _ u0 _ ur ra rw' =>
      obtain rfl : u0 = Value.ref a := ra
      have hlen : ur.length ≤ sizeLine := by
        rw [← Paired.length rw', sizeLine_eq]
        omega
      exact oxinit_ok T I1 ea hlen fun s' J => ⟨.non, H1, J, rfl, q⟩
  rcases B.ex with ⟨T, hm, hb, ht, st, vV, hn⟩ | ⟨CB, hm, hs, hr, vV⟩
  · refine PySem.W.methodCall_KW (ld_blt I hg hm hb ?_ hn hdb) hc
    obtain ⟨m, fr⟩ := I.fr
    exact PySem.W.method_type fr I.ok.mod.kin ht st vV B.h (fin _ (I.tok _))
  · refine PySem.W.methodCall_KW (ld_glob I hg hm ?_ hdb) hc
    exact PySem.W.method_cls I.kIn hs (PySem.W.cls_value I.kIn hr vV B.h (fin _ (I.tok _)))
theorem ps_xst (ho : PE X o to) (he : PE X e te) (hs : swapsWith e (some (.Attribute o f p')) pos.line X.env = pure false := by rfl) : PS X (.Assign [.Attribute o f p'] e pos) (tXst X.K initId f to te) := by
  refine ⟨fun pins s σ H D I h => ?_⟩
  refine plainObj_wpAny_Assign_Attribute (thn (he.run pins s σ H _ I h) fun v s1 ⟨y, H1, I1, r1, q1⟩ => thn (ho.run pins s1 σ H1 _ I1 q1) fun u s2 ⟨x, H2, I2, r2, a, C, ex, T, hno, ea, q⟩ => ?_) hs
  subst ex
  obtain rfl : u = Value.ref a := r2
  exact oxst_ok T I2 ea hno r1 fun dx s' n ne J => ⟨σ, _, J, q dx n ne⟩
end
/-- what an own __init__ of an exception promises: one field, the argument -/
def spX (C : Addr) (f : Str) : Sp := fun vs H Q _ => ∃ (a : Addr) (v : V), vs = [.ref a, v] ∧ H a = some (exo a C none) ∧ ∀ dx, H dx = none → dx ≠ a → Q .non (upd (upd H dx (exd dx [(f, v)])) a (exo a C (some dx)))
section
variable {P : Program} {w : World} {K : PySem.W.Frag} {mg : Str → Option Value} {base : Heap}
/-- def __init__(self, n): B.__init__(self, n); self.f = n -/
theorem fn_X {f0 : Addr} {qual : Str} {fd : FuncData} {st : Stmt} {sn n b f : Str} {C : Addr} {initId : String} {p1 p2 p3 p4 p5 p6 p7 p8 p9 p10 : Pos} (F : Fun K "__init__" qual st f0 fd) (S : FnScope [sn, n] [sn, n] (defScope st))
    (hbody : defBody st = [.Expr (.Call (.Attribute (.Name b p1) "__init__" p2) [.Name sn p3, .Name n p4] [] p5) p6, .Assign [.Attribute (.Name sn p7) f p8] (.Name n p9) p10])
    (hsn : Vis (defScope st) sn) (hn : Vis (defScope st) n) (hgb : (defScope st).names.lookup b = some .globalImplicit)
    (hpe : ∀ (X : Cx) (ta : TA), X.K = K → X.mg = mg → Gl X b → PA X [.Name sn p3, .Name n p4] ta → PE X (.Call (.Attribute (.Name b p1) "__init__" p2) [.Name sn p3, .Name n p4] [] p5) (tXI X.K initId ta)) (T : OxC K C initId) (hno : PySem.W.findIn K (.ref C) f = some none)
    (d1 : (sn == ("__debug__" : Str)) = false) (d2 : (sn == ("__classdict__" : Str)) = false) (d3 : (n == ("__debug__" : Str)) = false) (d4 : (n == ("__classdict__" : Str)) = false)
    (hs : ∀ Z : PySem.Env, swapsWith (.Name n p9) (some (.Attribute (.Name sn p7) f p8)) p10.line Z = pure false) (hs1 : ∀ Z : PySem.Env, swapsWith (.Call (.Attribute (.Name b p1) "__init__" p2) [.Name sn p3, .Name n p4] [] p5) none p6.line Z = pure false) :
    FnOk P w K mg base (L2.CX P w) 1 f0 fd [sn, n] (spX C f) := by
  refine F.okX S (fun vs H Q E ⟨a, v, e, _⟩ => by rw [e]; rfl) fun cdv A outer s H vs Q E hr ⟨a, v, e, ha, q⟩ => ?_
  subst e
  rw [hbody]
  have pself : PE (cxOf (L2.CX P w) P w K mg base [sn, n] qual (defScope st) f0 cdv A outer s H E) (.Name sn p3) (tVar 0) := pe_var rfl hsn d1 d2
  have pself2 : PE (cxOf (L2.CX P w) P w K mg base [sn, n] qual (defScope st) f0 cdv A outer s H E) (.Name sn p7) (tVar 0) := pe_var rfl hsn d1 d2
  have pn : PE (cxOf (L2.CX P w) P w K mg base [sn, n] qual (defScope st) f0 cdv A outer s H E) (.Name n p4) (tVar 1) := pe_var rfl hn d3 d4
  have pn2 : PE (cxOf (L2.CX P w) P w K mg base [sn, n] qual (defScope st) f0 cdv A outer s H E) (.Name n p9) (tVar 1) := pe_var rfl hn d3 d4
  have pc := hpe (cxOf (L2.CX P w) P w K mg base [sn, n] qual (defScope st) f0 cdv A outer s H E) _ rfl rfl hgb (pa_cons pself (pa_cons pn pa_nil))
  refine ⟨_, pss_cons (ps_expr pc (hs1 _)) (pss_one (ps_xst (initId := initId) pself2 pn2 (hs _))), ?_⟩
  refine ⟨.ref a, rfl, v, rfl, a, C, [v], rfl, by simp, T, ha, v, rfl, .ref a, rfl, a, C, rfl, T, hno, ha, fun dx h1 h2 => q dx h1 h2⟩
end
end DN
/-! DE3: exceptions as data: isinstance, fields, making. -/
namespace DN
open PySem PySem.Spec PyProof.Rows L2 XM
/-- an exception of the class C, held at a -/
def ExAt (H : Hp) (a C : Addr) : Prop := H a = some (ExO (.ref C) a) ∨ ∃ dx fs, H a = some (exo a C (some dx)) ∧ H dx = some (exd dx fs)
section
variable {X : Cx} {pins : List (Addr × Obj)} {σ : L2.St} {H : Hp} {s : Shared}
theorem ExAt.inst {a C : Addr} (I : Inv X pins σ H s) (e : ExAt H a C) : ∃ oe od, PySem.W.InstAt s.heap a oe C od := by
  rcases e with e | ⟨dx, fs, e, ed⟩
  · obtain ⟨⟨oe, vs, ho, hz, hv, _⟩, _, _⟩ := I.hok a _ e
    refine ⟨oe, none, ?_⟩
    obtain ⟨oc, od, oda, osl⟩ := oe
    obtain ⟨h1, h2⟩ := hz
    dsimp only at h1 h2 hv
    subst h1 h2 hv
    exact ⟨ho, rfl, rfl, trivial⟩
  · obtain ⟨t1, ho⟩ := exo_at I.hok e
    obtain ⟨mA, hns, _⟩ := exd_at I.hok ed
    obtain ⟨od, es, ep, hd, _⟩ := hns
    exact ⟨_, some od, ho, rfl, rfl, hd⟩
def rIsX (K : PySem.W.Frag) : List V → Hp → VK → Prop := fun xs H Q => rIsiZ K xs H Q ∨ ∃ (a C : Addr) (c : V) (u : Value) (b : Bool), xs = [.ref a, c] ∧ ClsV c u ∧ ExcC K C ∧ ExAt H a C ∧ PySem.W.kitOne K (.ref C) u = some b ∧ Q (.bl b) H
theorem call_isX {X : Cx} : CallR X (.builtin "isinstance") (rIsX X.K) := by
  intro pins s σ H xs us Q I r h
  rcases h with h | ⟨a, C, c, u, b, ex, k, T, e, ek, q⟩
  · exact call_isiZ pins s σ H xs us Q I r h
  · subst ex
    obtain ⟨u1, u2, rfl, r1, r2⟩ := vals2 r
    have e2 := k.eq r2
    subst e2
    cases r1
    obtain ⟨oe, od, J⟩ := e.inst I
    have hcl : (PySem.W.clsIn X.K C).isSome = true := by
      obtain ⟨cd, hc, _⟩ := PySem.W.any_some T.hd
      rw [hc]; rfl
    exact PySem.W.kia_one (PySem.W.kitx_exc hcl T.hg T.hk T.hs T.ha T.hn T.ht T.hm) I.kIn J ek (fun z => nomatch z) fun tk => ⟨.bl b, H, I.tok tk, rfl, q⟩
end
theorem Rp.exAt {G : Gx} {W : Wd} {H : Hp} {v : V} {c : Str} {fs : List (Str × D)} (r : Rp G W H v (.exn c fs)) : ∃ a C, v = .ref a ∧ G.cl.at_ c = some C ∧ ExAt H a C := by
  cases r with
  | exn0 h e _ => exact ⟨_, _, rfl, h, .inl e⟩
  | exn1 h e _ e2 _ _ => exact ⟨_, _, rfl, h, .inr ⟨_, _, e, e2⟩⟩
/-! ### isinstance(e, x), x a class, own or built-in, with a table of the own classes -/
def gIsO (tab : List (Str × Bool)) : D → M D
  | .exn c _ => match tab.lookup c with
    | some b => M.pure (.bl b)
    | none => M.bad
  | d => match tyD d with
    | some _ => M.pure (.bl false)
    | none => M.bad
structure IsV (K : PySem.W.Frag) (mg : Str → Option Value) (cl : Cls_) (x : Str) (tab : List (Str × Bool)) : Prop where
  ex : ∃ (c : V) (u : Value), ClsV c u ∧ ((∃ C, mg x = some (.ref C) ∧ c = .ref C) ∨ ∃ T, mg x = none ∧ bootBuiltins x = some (.type T) ∧ c = .ty T ∧ x ≠ "__name__") ∧
    (∀ k b, tab.lookup k = some b → ∃ C, cl.at_ k = some C ∧ ExcC K C ∧ PySem.W.kitOne K (.ref C) u = some b) ∧ ∀ t ∈ tyNames, PySem.W.kitOne K (.type t) u = some false
section
variable {X : Cx} {cl : Cls_} {E : WX} {a : Expr} {fa : Env → M D} {pos : Pos}
theorem de_isO {x : Str} {tab : List (Str × Bool)} {p p2 : Pos} (T : IsV X.K X.mg cl x tab) (hm : X.mg "isinstance" = none) (ha : DE X cl E a fa) (hg : Gl X "isinstance" := by rfl) (hg2 : Gl X x := by rfl) (hdb : (x == ("__debug__" : Str)) = false := by decide)
    (he : starEach (a :: [.Name x p2]) X.env = (false, eval a X.env) :: starEach [.Name x p2] X.env := by rfl) (he2 : starEach (.Name x p2 :: []) X.env = (false, eval (.Name x p2) X.env) :: starEach [] X.env := by rfl) (hpl : (backTo pos (starEach [.Name x p2] X.env)).any (·.1) = false := by rfl) :
    DE X cl E (.Call (.Name "isinstance" p) [a, .Name x p2] [] pos) (c1 (gIsO tab) fa) := by
  obtain ⟨c, u, k, hx, tb, ty⟩ := T.ex
  have pc : PE X (.Name x p2) (tC c) := by
    rcases hx with ⟨C, m, rfl⟩ | ⟨T, m, hb, rfl, hn⟩
    · exact pe_glob hg2 m rfl hdb
    · exact pe_bltn (v := .ty T) hg2 m hb rfl hn hdb
  refine pe_imp (pe_callB call_isX hg hm (by decide +kernel) (pa_cons ha (pa_cons pc pa_nil he2) he) (by decide) (by decide) he hpl) fun σ H Q h => ?_
  refine tE_bind h fun W0 H0 W1 H1 S1 ρ own v d ev rv hh => ?_
  unfold gIsO at hh
  split at hh
  · rename_i c0 fs0
    cases q : tab.lookup c0 with
    | none => rw [q] at hh; exact hh.elim
    | some b =>
      rw [q] at hh
      obtain ⟨a, C, ev', hc, ea⟩ := rv.exAt
      subst ev'
      obtain ⟨C', hc', xc, ek⟩ := tb _ _ q
      have hc : cl.at_ c0 = some C := hc
      rw [hc] at hc'
      cases hc'
      exact .inr ⟨a, C, c, u, b, rfl, k, xc, ea, ek, Po.val ev.wk ev.st hh (.bl _)⟩
  · cases q : tyD d with
    | none => rw [q] at hh; exact hh.elim
    | some t =>
      rw [q] at hh
      obtain ⟨tz, ht⟩ := rv.tyx q
      exact .inl ⟨v, c, .type t, u, false, rfl, k, tz, ty t ht, Po.val ev.wk ev.st hh (.bl _)⟩
/-! ### e.f -/
def gFld (f : Str) (cs : List Str) : D → M D
  | .exn c fs => if cs.contains c = true then (match fs.lookup f with
    | some d => M.pure d
    | none => M.bad) else M.bad
  | _ => M.bad
structure FldV (K : PySem.W.Frag) (cl : Cls_) (f : Str) (cs : List Str) : Prop where
  ex : ∀ c, cs.contains c = true → ∃ C, cl.at_ c = some C ∧ XfC K C ∧ PySem.W.findIn K (.ref C) f = some none
theorem RpF.look {G : Gx} {W : Wd} {H : Hp} {f : Str} : ∀ {fs : List (Str × V)} {ds : List (Str × D)} {d : D}, RpF G W H fs ds → ds.lookup f = some d → ∃ v, fs.lookup f = some v ∧ Rp G W H v d
  | _, _, _, .nil, h => by cases h
  | _, _, d, @RpF.cons _ _ _ g v vs d0 ds r t, h => by
    rw [List.lookup_cons] at h ⊢
    cases q : f == g with
    | true =>
      rw [q] at h
      cases h
      exact ⟨v, rfl, r⟩
    | false =>
      rw [q] at h
      exact RpF.look t h
theorem pe_fldX {e : Expr} {te : TE} {pos : Pos} {n : Str} (he : PE X e te) (hb : attributeBase e n X.env (eval e X.env) = eval e X.env := by rfl) :
    PE X (.Attribute e n pos) (fun σ H Q => te σ H fun x H1 => ∃ (a C dx : Addr) (fs : List (Str × V)) (v : V), x = .ref a ∧ XfC X.K C ∧ PySem.W.findIn X.K (.ref C) n = some none ∧ H1 a = some (exo a C (some dx)) ∧ H1 dx = some (exd dx fs) ∧ fs.lookup n = some v ∧ Q v H1) := by
  refine ⟨fun pins s σ H Q I h => ?_⟩
  refine attr_of hb (thn (he.run pins s σ H _ I h) fun u s1 hh => ?_)
  obtain ⟨x, H1, I1, rx, a, C, dx, fs, v, ex, T, hno, ea, ed, l, q⟩ := hh
  subst ex
  obtain rfl : u = Value.ref a := rx
  obtain ⟨t1, ho⟩ := exo_at I1.hok ea
  obtain ⟨mA, hns, hr⟩ := exd_at I1.hok ed
  obtain ⟨od, hd, hl⟩ := lookIn_ns hns
  obtain ⟨u, hu, ru⟩ := RelO.some_of (v := v) (o := mA n) (by rw [← l]; exact hr n)
  have J : PySem.W.InstAt s1.heap a _ C (some od) := ⟨ho, rfl, rfl, hd⟩
  exact HandSPX.exc_get I1.kIn J T.ga T.gg T.exC (PySem.W.findObj_own T.hdC hno rfl (by rw [hl, hu])) (handed_of ru) ⟨v, H1, I1.tok _, ru, q⟩
theorem de_fldX {f : Str} {cs : List Str} (T : FldV X.K cl f cs) (ha : DE X cl E a fa) (hb : attributeBase a f X.env (eval a X.env) = eval a X.env := by rfl) : DE X cl E (.Attribute a f pos) (c1 (gFld f cs) fa) := by
  refine pe_imp (pe_fldX ha hb) fun σ H Q h => ?_
  refine tE_bind h fun W0 H0 W1 H1 S1 ρ own v d ev rv hh => ?_
  cases d with
  | exn c ds =>
    obtain ⟨hc, hh⟩ := po_if (m := match ds.lookup f with | some d => M.pure d | none => M.bad) hh
    cases q : ds.lookup f with
    | none => rw [q] at hh; exact hh.elim
    | some d =>
      rw [q] at hh
      obtain ⟨C', e1, T1, T2⟩ := T.ex c hc
      cases rv with
      | exn0 _ _ _ => cases q
      | @exn1 _ a0 C dx fs _ hC ea na ed nd r =>
        have hC : cl.at_ c = some C := hC
        rw [hC] at e1
        cases e1
        obtain ⟨v, hv, r2⟩ := r.look q
        exact ⟨a0, _, dx, fs, v, rfl, T1, T2, ea, ed, hv, Po.val ev.wk ev.st hh r2⟩
  | _ => exact hh.elim
/-! ### making -/
def gMkP (c : Str) : D → M D := fun _ => M.pure (.exn c [])
def gMkI (c f : Str) : D → M D := fun d => M.pure (.exn c [(f, d)])
theorem de_mkP {x : Str} {C : Addr} {p : Pos} (V : ExV X.K X.mg cl x C) (ha : DE X cl E a fa) (hg : Gl X x := by rfl) (hs : starEach [a] X.env = (false, eval a X.env) :: starEach [] X.env := by rfl) (hdb : (x == ("__debug__" : Str)) = false := by decide) :
    DE X cl E (.Call (.Name x p) [a] [] pos) (c1 (gMkP x) fa) := by
  refine pe_imp (pe_exc1 PySem.F.excBase_ValueError V.ex V.g V.k hg ha hs hdb) fun σ H Q h => ?_
  refine tE_bind h fun W0 H0 W1 H1 S1 ρ own v d ev rv hh p hp => ?_
  exact Po.new ev.wk ev.st hh hp (.exn0 V.c upd_same (ev.wk.free hp))
/-- an own class with an own __init__ that keeps its argument in the field f -/
structure MkV (P : Program) (w : World) (K : PySem.W.Frag) (mg : Str → Option Value) (base : Heap) (cl : Cls_) (x : Str) (f : Str) (C : Addr) : Prop where
  ex : ∃ (initId : String) (fI : Addr) (fd : FuncData) (sn n : Str), OxC K C initId ∧ PySem.W.findIn K (.ref C) "__init__" = some (some (.ref fI)) ∧ PySem.W.typeIn K (.ref fI) = some (.type "function") ∧ FnOk P w K mg base (L2.CX P w) 1 fI fd [sn, n] (spX C f) ∧ Binds K fd [sn, n] []
  g : mg x = some (.ref C)
  k : PySem.W.keepIn K (.ref C) = true
  c : cl.at_ x = some C
theorem no_cxS {P : Program} {w : World} {out : List PySem.Env} {H : Hp} {s : Shared} {e : Value} {s' : Shared} (h : L2.CX P w out H s (fun _ _ _ => False) e s') : False := by
  obtain ⟨_, _, _, _, _, _, _, _, _, _, _, _, z⟩ := h
  exact z
theorem pe_mkX {x f : Str} {C : Addr} {e : Expr} {te : TE} {p : Pos} (V0 : MkV X.prog X.w X.K X.mg X.base cl x f C) (hr : Room 2 X.A) (ha : PE X e te) (hg : Gl X x := by rfl) (hdb : (x == ("__debug__" : Str)) = false := by decide)
    (he : starEach [e] X.env = (false, eval e X.env) :: starEach [] X.env := by rfl) (hpl : (backTo pos (starEach [] X.env)).any (·.1) = false := by rfl) :
    PE X (.Call (.Name x p) [e] [] pos) (fun σ H Q => te σ H fun v H1 => ∀ a dx, H1 a = none → H1 dx = none → dx ≠ a → Q (.ref a) (upd (upd (upd H1 a (exo a C none)) dx (exd dx [(f, v)])) a (exo a C (some dx)))) := by
  obtain ⟨initId, fI, fd, sn, n, T, iC, tI, F1, hb⟩ := V0.ex
  obtain ⟨nm, q, N, bs, bm, sl, sub, ab, col, dd, k0, k1, k2, k3, k5, B, newId, B2, hC, xb⟩ := T.cls
  refine ⟨fun pins s σ H Q I h => ?_⟩
  refine wpAny_Call_Name_kw (ld_glob I hg V0.g ?_ hdb)
  refine PySem.W.callWith_K (h₀ := X.base) I.ok.mod.kin V0.k (thn ((pa_cons ha pa_nil he).run pos pins s σ H (fun vs H1 => match vs with | [v] => ∀ a dx, H1 a = none → H1 dx = none → dx ≠ a → Q (.ref a) (upd (upd (upd H1 a (exo a C none)) dx (exd dx [(f, v)])) a (exo a C (some dx))) | _ => False) I h) fun us s1 ⟨vs, H1, I1, r1, q1⟩ => ⟨I1.kIn, ?_⟩) he hpl
  match vs, q1 with
  | [v], q1 =>
  show wpAny _ _ (call (.ref C) us) _ _ _
  obtain ⟨hp, g, dr, tk', os⟩ := s1
  have hsz : hp.objs.size ≤ hp.objs.size + 1 := Nat.le_succ _
  have hn : H1 (hp.objs.size + 1) = none := I1.hok.fresh hsz
  have kk : ∀ b o, hp.get? b = some o → ((hp.push (PySem.W.kdv_tup us)).push (PySem.HandSPX.excO C hp.objs.size)).get? b = some o := fun b o e => Heap.get?_push_of_some _ (Heap.get?_push_of_some _ e)
  have hget : ((hp.push (PySem.W.kdv_tup us)).push (PySem.HandSPX.excO C hp.objs.size)).get? (hp.objs.size + 1) = some (PySem.HandSPX.excO C hp.objs.size) := by heap_get
  have I2 : Inv X pins σ (upd H1 (hp.objs.size + 1) (exo (hp.objs.size + 1) C none)) ⟨(hp.push (PySem.W.kdv_tup us)).push (PySem.HandSPX.excO C hp.objs.size), g, dr, tk', os⟩ :=
    I1.laid (t' := tk') (a := hp.objs.size + 1) (o := exo (hp.objs.size + 1) C none) (h' := (hp.push (PySem.W.kdv_tup us)).push (PySem.HandSPX.excO C hp.objs.size)) kk hsz (exo_ok hget)
  have r2 : Vals (V.ref (hp.objs.size + 1) :: [v]) (Value.ref (hp.objs.size + 1) :: us) := .cons rfl r1
  have hl : (Value.ref (hp.objs.size + 1) :: us ++ []).length = [sn, n].length := by rw [List.append_nil]; exact r2.length.symm
  have hus : us.length ≤ sizeLine := by
    rw [← Paired.length r1, sizeLine_eq]
    simp
  have hb2 := hb ⟨(hp.push (PySem.W.kdv_tup us)).push (PySem.HandSPX.excO C hp.objs.size), g, dr, tk', os⟩ (Value.ref (hp.objs.size + 1) :: us) I2.kIn hl
  rw [List.append_nil] at hb2
  refine wpAny_call (call_x xb (I1.kIn _ _ hC) (PySem.W.looks_findIn I1.kIn iC) (fun self => PySem.W.bind_fn I1.kIn self tI) hus
    (codeAny_mono (F1.run _ X.stack _ _ ⟨Value.ref (hp.objs.size + 1) :: us, []⟩ (Value.ref (hp.objs.size + 1) :: us) [V.ref (hp.objs.size + 1), v] (fun u H2 => u = .non ∧ Q (.ref (hp.objs.size + 1)) H2) (fun _ _ _ => False) (hr.make C us []) (I2.env0.make C us []) hb2 r2 ⟨_, v, rfl, upd_same, fun dx h1 h2 => ⟨rfl, q1 _ dx hn (by rw [upd_ne h2] at h1; exact h1) h2⟩⟩) fun r s' hq' => ?_))
  cases r with
  | error er => exact (no_cxS hq').elim
  | ok fl =>
    cases fl with
    | ret u =>
      obtain ⟨v', H2, os2, bare2, un2, hok2, rv, ev, q2⟩ := hq'
      subst ev
      exact ⟨rv, .ref (hp.objs.size + 1), H2, I2.call' (ch := []) os2 un2 hok2 bare2 (fun b z => absurd z (by simp)), rfl, q2⟩
    | next => exact False.elim hq'
    | brk => exact False.elim hq'
    | cont => exact False.elim hq'
theorem de_mkI {x f : Str} {C : Addr} {p : Pos} (V0 : MkV X.prog X.w X.K X.mg X.base cl x f C) (hr : Room 2 X.A) (ha : DE X cl E a fa) (hg : Gl X x := by rfl) (hdb : (x == ("__debug__" : Str)) = false := by decide)
    (he : starEach [a] X.env = (false, eval a X.env) :: starEach [] X.env := by rfl) (hpl : (backTo pos (starEach [] X.env)).any (·.1) = false := by rfl) : DE X cl E (.Call (.Name x p) [a] [] pos) (c1 (gMkI x f) fa) := by
  refine pe_imp (pe_mkX V0 hr ha hg hdb he hpl) fun σ H Q h => ?_
  refine tE_bind h fun W0 H0 W1 H1 S1 ρ own v d ev rv hh p dx hp hd ne => ?_
  have eu : upd (upd (upd H1 p (exo p C none)) dx (exd dx [(f, v)])) p (exo p C (some dx)) = upd (upd H1 dx (exd dx [(f, v)])) p (exo p C (some dx)) := by
    funext b
    by_cases hb : b = p
    · subst hb; rw [upd_same, upd_same]
    · rw [upd_ne hb, upd_ne hb]
      by_cases hb2 : b = dx
      · subst hb2; rw [upd_same, upd_same]
      · rw [upd_ne hb2, upd_ne hb2, upd_ne hb]
  rw [eu]
  have s1 : Same H1 (upd H1 dx (exd dx [(f, v)])) := Same.new hd
  have hp' : upd H1 dx (exd dx [(f, v)]) p = none := by rw [upd_ne (Ne.symm ne)]; exact hp
  have s2 : Same H1 (upd (upd H1 dx (exd dx [(f, v)])) p (exo p C (some dx))) := s1.trans (Same.new hp')
  refine hh W1 _ (Le.same s2) (ev.wk.same s2) (ev.st.same s2) _ ?_
  exact .exn1 V0.c upd_same (ev.wk.free hp) (by rw [upd_ne ne, upd_same]) (ev.wk.free hd) (.cons (rv.mono (Lw.same s2)) .nil)
end
end DN
/-! DE4: repr of lists of data, where no repr is under way. -/
namespace DN
open PySem PySem.Spec PyProof.Rows L2
mutual
def toR : D → Option PyData
  | .non => some .none
  | .bl b => some (.bool b)
  | .int i => some (.int i)
  | .str x => some (.str x)
  | .tup xs => (toRs xs).map .tuple
  | .lst xs => (toRs xs).map .list
  | .dct kvs => if kvs.isEmpty = true then some (.dict []) else none
  | _ => none
def toRs : List D → Option (List PyData)
  | [] => some []
  | d :: ds => match toR d, toRs ds with
    | some p, some ps => some (p :: ps)
    | _, _ => none
end
mutual
inductive Dq (K : PySem.W.Frag) (H : Hp) : V → PyData → Prop
  | non : Dq K H .non .none
  | bl (b : Bool) : Dq K H (.bl b) (.bool b)
  | int (i : Int) : Dq K H (.int i) (.int i)
  | str (x : Str) : Dq K H (.str x) (.str x)
  | lst {a : Addr} {xs : List V} {ds : List PyData} : SqL K H a xs → DqAll K H xs ds → Dq K H (.ref a) (.list ds)
  | tup {a : Addr} {xs : List V} {ds : List PyData} : SqT K H a xs → DqAll K H xs ds → Dq K H (.ref a) (.tuple ds)
  | dct {a : Addr} : H a = some (.dK []) → Dq K H (.ref a) (.dict [])
inductive DqAll (K : PySem.W.Frag) (H : Hp) : List V → List PyData → Prop
  | nil : DqAll K H [] []
  | cons {v : V} {vs : List V} {d : PyData} {ds : List PyData} : Dq K H v d → DqAll K H vs ds → DqAll K H (v :: vs) (d :: ds)
end
section
variable {K : PySem.W.Frag} {cl : Cls_} {W : Wd} {H : Hp}
mutual
theorem Rp.dq : ∀ {d : D} {v : V} {p : PyData}, Rp ⟨K, cl⟩ W H v d → toR d = some p → Dq K H v p
  | .non, _, _, .non, e => by simp [toR] at e; subst e; exact .non
  | .bl b, _, _, .bl _, e => by simp [toR] at e; subst e; exact .bl b
  | .int b, _, _, .int _, e => by simp [toR] at e; subst e; exact .int b
  | .str b, _, _, .str _, e => by simp [toR] at e; subst e; exact .str b
  | .tup ds, _, _, .tup h r, e => by
    simp only [toR, Option.map_eq_some_iff] at e
    obtain ⟨ps, e1, e2⟩ := e
    subst e2
    exact .tup h.sq (RpA.dq r e1)
  | .lst ds, _, _, .lst h _ r, e => by
    simp only [toR, Option.map_eq_some_iff] at e
    obtain ⟨ps, e1, e2⟩ := e
    subst e2
    exact .lst (SqL.of h) (RpA.dq r e1)
  | .dct [], _, _, .dct h _ r, e => by
    simp [toR] at e
    subst e
    cases r
    exact .dct h
  | .dct (_ :: _), _, _, _, e => by simp [toR] at e
  | .mut _, _, _, _, e => by simp [toR] at e
  | .opq, _, _, _, e => by simp [toR] at e
  | .ins _ _, _, _, _, e => by simp [toR] at e
  | .exn _ _, _, _, _, e => by simp [toR] at e
  | .scr _, _, _, _, e => by simp [toR] at e
theorem RpA.dq : ∀ {ds : List D} {vs : List V} {ps : List PyData}, RpA ⟨K, cl⟩ W H vs ds → toRs ds = some ps → DqAll K H vs ps
  | [], _, _, .nil, e => by simp [toRs] at e; subst e; exact .nil
  | d :: ds, _, _, .cons r t, e => by
    unfold toRs at e
    cases q1 : toR d with
    | none => rw [q1] at e; simp at e
    | some p =>
      cases q2 : toRs ds with
      | none => rw [q1, q2] at e; simp at e
      | some ps =>
        rw [q1, q2] at e
        simp at e; subst e
        exact .cons (Rp.dq r q1) (RpA.dq t q2)
end
end
section
variable {X : Cx} {pins : List (Addr × Obj)} {σ : L2.St} {H : Hp} {s : Shared}
mutual
theorem Dq.shows (I : Inv X pins σ H s) : ∀ (p : PyData) (v : V) (u : Value), Dq X.K H v p → RelV v u → p.showable = true → p.shown.length ≤ sizeLine → ∃ as bs, Reads s.heap u p as ∧ ReadAtMost s.heap p.depth bs ∧ ReprK X.prog X.w bs s.heap p.depth u p.shown
  | .none, _, _, h, r, _, _ => by
    cases h; cases r
    exact ⟨_, [], .none, (fun _ h => nomatch h), by simp only [PyData.shown]; exact .of_is ReprIs.none _ _ _⟩
  | .bool b, _, _, h, r, _, _ => by
    cases h; cases r
    exact ⟨_, [], .bool b, (fun _ h => nomatch h), by simp only [PyData.shown]; exact .of_is (ReprIs.bool b) _ _ _⟩
  | .int i, _, _, h, r, hs, _ => by
    cases h
    obtain ⟨t, rfl⟩ := r
    exact ⟨_, [], .int i t, (fun _ h => nomatch h), by simp only [PyData.shown]; exact .of_is (ReprIs.int t (by simpa [PyData.showable] using hs)) _ _ _⟩
  | .str x, _, _, h, r, _, hz => by
    cases h
    obtain ⟨t, rfl⟩ := r
    exact ⟨_, [], .str x t, (fun _ h => nomatch h), by simp only [PyData.shown]; exact .of_is (ReprIs.str x t (by simpa only [PyData.shown] using hz)) _ _ _⟩
  | .list ds, _, _, h, r, hs, hz => by
    cases h with
    | @lst a xs _ hq ha =>
      cases r
      have hz' : (listText (PyData.shownAll ds)).length ≤ sizeLine := by simpa only [PyData.shown] using hz
      obtain ⟨its, rv, ⟨o, n, ho, hc, _, hd⟩, _⟩ := I.list hq
      obtain ⟨as, bs, hr, hb, hk⟩ := DqAll.shows I ds _ its ha rv (by simpa [PyData.showable] using hs) (fun t ht => Nat.le_trans (listText_mem_le ht) hz')
      have r : Reads s.heap (.ref a) (.list ds) _ := .list ho hc hd hr
      have hna : a ∉ bs := not_mem_of_deeper r (by simp only [PyData.depth]; omega) hb
      refine ⟨_, a :: bs, r, ReadAtMost.cons r (by simp only [PyData.depth]; omega) hb, ?_⟩
      simp only [PyData.depth, PyData.shown]
      cases its with
      | nil =>
        cases hr
        simp only [PyData.shownAll, listText_nil]
        exact ReprK.listEmpty ho hc hd
      | cons x l => exact ReprK.list ho hc hd hna (by simpa using hk.length_eq) (fun i y e => hk.item i y (by simpa using e))
  | .tuple ds, _, _, h, r, hs, hz => by
    cases h with
    | @tup a xs _ hq ha =>
      cases r
      have hz' : (tupleText (PyData.shownAll ds)).length ≤ sizeLine := by simpa only [PyData.shown] using hz
      obtain ⟨its, rv, ⟨o, ho, hc, n, hd⟩, _⟩ := I.tuple hq
      obtain ⟨as, bs, hr, hb, hk⟩ := DqAll.shows I ds _ its ha rv (by simpa [PyData.showable] using hs) (fun t ht => Nat.le_trans (tupleText_mem_le ht) hz')
      have r : Reads s.heap (.ref a) (.tuple ds) _ := .tuple ho hc hd hr
      have hna : a ∉ bs := not_mem_of_deeper r (by simp only [PyData.depth]; omega) hb
      refine ⟨_, a :: bs, r, ReadAtMost.cons r (by simp only [PyData.depth]; omega) hb, ?_⟩
      simp only [PyData.depth, PyData.shown]
      exact ReprK.tuple ho hc hd hna hk
  | .dict kvs, _, _, h, r, hs, hz => by
    cases h with
    | @dct a hq =>
      cases r
      obtain ⟨_, hsys, vs, r0, o, es, ep, e1, e2, e3, _, e5, _⟩ := dk_of I.hok hq
      cases r0
      have e4 : es.toList = [] := by
        cases q : es.toList with
        | nil => rfl
        | cons a b => rw [q] at e5; first | cases e5 | exact (show False from e5).elim
      have r : Reads s.heap (.ref a) (.dict []) [a] := .dict (as := []) (bs := []) e1 e2.1 e3 (by rw [e4]; exact .nil) (by rw [e4]; exact .nil)
      refine ⟨_, [a], r, ReadAtMost.cons (n := 0) (bs := []) r (Nat.zero_le _) (fun _ h => nomatch h), ?_⟩
      simp only [PyData.depth, PyData.shown, PyData.shownKv]
      exact ReprK.dict e1 e2.1 e3 hsys (by simp) (by rw [e4]; exact .nil)
theorem DqAll.shows (I : Inv X pins σ H s) : ∀ (ps : List PyData) (vs : List V) (us : List Value), DqAll X.K H vs ps → Vals vs us → PyData.showableAll ps = true → (∀ t ∈ PyData.shownAll ps, t.length ≤ sizeLine) → ∃ as bs, ReadsAll s.heap us ps as ∧ ReadAtMost s.heap (PyData.depthAll ps) bs ∧ ReprAllK X.prog X.w bs s.heap (PyData.depthAll ps) us (PyData.shownAll ps)
  | [], _, _, h, r, _, _ => by
    cases h; cases r
    exact ⟨_, [], .nil, (fun _ h => nomatch h), by simp only [PyData.shownAll]; exact .nil⟩
  | d :: ds, _, _, h, r, hs, hz => by
    cases h with
    | cons h1 h2 =>
      cases r with
      | cons r1 r2 =>
        have hs' : d.showable = true ∧ PyData.showableAll ds = true := by simpa [PyData.showableAll] using hs
        obtain ⟨a1, b1, q1, hb1, k1⟩ := Dq.shows I d _ _ h1 r1 hs'.1 (hz _ (by simp only [PyData.shownAll]; exact List.mem_cons_self ..))
        obtain ⟨a2, b2, q2, hb2, k2⟩ := DqAll.shows I ds _ _ h2 r2 hs'.2 (fun t ht => hz t (by simp only [PyData.shownAll]; exact List.mem_cons_of_mem _ ht))
        refine ⟨_, b1 ++ b2, .cons q1 q2, ?_, ?_⟩
        · simp only [PyData.depthAll]
          exact (hb1.mono (Nat.le_max_left _ _)).append (hb2.mono (Nat.le_max_right _ _))
        · simp only [PyData.depthAll, PyData.shownAll]
          exact .cons ((k1.more fun b hb => List.mem_append_left _ hb).level_le (Nat.le_max_left _ _)) (k2.more_le (fun b hb => List.mem_append_right _ hb) (Nat.le_max_right _ _))
end
def rReprS (K : PySem.W.Frag) : List V → Hp → VK → Prop := fun xs H Q => ∃ (a : Addr) (ps : List PyData), xs = [.ref a] ∧ Dq K H (.ref a) (.list ps) ∧ (PyData.list ps).showable = true ∧ (PyData.list ps).shown.length ≤ sizeLine ∧ (PyData.list ps).depth ≤ 60 ∧ Q (.str (PyData.list ps).shown) H
theorem call_reprS {X : Cx} (gu : X.A.guards = some []) (hu : X.A.units + 64 < cLine) : CallR X (.builtin "repr") (rReprS X.K) := by
  intro pins s σ H xs us Q I r ⟨a, ps, ex, hq, hs, hz, hd, q⟩
  subst ex
  obtain ⟨u, rfl, r1⟩ := vals1 r
  obtain rfl : u = Value.ref a := r1
  cases hq with
  | @lst _ xs _ hq ha =>
    have hz' : (listText (PyData.shownAll ps)).length ≤ sizeLine := by simpa only [PyData.shown] using hz
    obtain ⟨its, rv, ⟨o, n, ho, hc, _, hdt⟩, _⟩ := I.list hq
    obtain ⟨as, bs, hr, hb, hk⟩ := DqAll.shows I ps _ its ha rv (by simpa [PyData.showable] using hs) (fun t ht => Nat.le_trans (listText_mem_le ht) hz')
    have r : Reads s.heap (.ref a) (.list ps) _ := .list ho hc hdt hr
    have hna : a ∉ bs := not_mem_of_deeper r (by simp only [PyData.depth]; omega) hb
    simp only [PyData.depth] at hd
    simp only [PyData.shown] at q
    refine call_repr_slot (by omega) ⟨o, ho, hc⟩ F.slot_list_repr.toG ?_
    have hu1 : X.A.in1.units + (PyData.depthAll ps + 1) < cLine := by show X.A.units + 1 + (PyData.depthAll ps + 1) < cLine; omega
    cases its with
    | nil =>
      cases hr
      simp only [PyData.shownAll, listText_nil] at q
      exact call_list_repr_empty ⟨o, ho, hc⟩ ho hdt ⟨_, _, rfl, .str _, H, I.tok _, ⟨_, rfl⟩, q⟩
    | cons x l =>
      exact call_list_reprK ho hc hdt hna (by simpa using hk.length_eq) (fun i y e => hk.item i y (by simpa using e)) (show X.A.in1.guards = some [] from gu) (fun b _ => Clear.nil b) hu1 (fun _ _ e => e) (fun h' u tk k => ⟨_, _, rfl, .str _, H, I.kept k, ⟨_, rfl⟩, q⟩) hz'
end
/-- repr of a list -/
def reprOk (p : PyData) : Bool := p.showable && (decide (p.shown.length ≤ 16777216) && decide (p.depth ≤ 60))
def gReprS : List D → M D
  | [.lst ds] => match toR (.lst ds) with
    | some p => if reprOk p = true then M.pure (.str p.shown) else M.bad
    | none => M.bad
  | _ => M.bad
theorem cd_reprS {K : PySem.W.Frag} {cl : Cls_} : CallD K cl (rReprS K) gReprS := by
  intro E σ W H S vs ds Q w s r h
  match ds, h with
  | [.lst ds], h =>
    obtain ⟨v, rfl, rv⟩ := r.inv1
    have h : Po ⟨K, cl⟩ E σ W H ((match toR (.lst ds) with | some p => if reprOk p = true then M.pure (.str p.shown) else M.bad | none => M.bad : M D) S) (RV ⟨K, cl⟩ Q) := h
    cases q : toR (.lst ds) with
    | none => rw [q] at h; exact h.elim
    | some p =>
      rw [q] at h
      obtain ⟨ok, h⟩ := po_if h
      have dq := rv.dq q
      unfold reprOk at ok
      rw [Bool.and_eq_true, Bool.and_eq_true, decide_eq_true_eq, decide_eq_true_eq] at ok
      simp only [toR, Option.map_eq_some_iff] at q
      obtain ⟨ps, _, e2⟩ := q
      subst e2
      cases rv with
      | lst h1 nb ra => exact ⟨_, ps, rfl, dq, ok.1, isline ok.2.1, ok.2.2, Po.val w s h (.str _)⟩
end DN
/-! DE5: what is asked of the written part about classes of exceptions, as truth values. -/
namespace DN
open PySem PySem.Spec PyProof.Rows L2 XM
def onCls (K : PySem.W.Frag) (c : Str) (f : Addr → Bool) : Bool := match clN K c with
  | some C => f C
  | none => false
theorem onCls_ok {K : PySem.W.Frag} {c : Str} {f : Addr → Bool} (h : onCls K c f = true) : ∃ C, clN K c = some C ∧ f C = true := by
  unfold onCls at h
  cases q : clN K c with
  | none => rw [q] at h; cases h
  | some C => rw [q] at h; exact ⟨C, rfl, h⟩
theorem clN_mg {K : PySem.W.Frag} {h : Heap} {mg : Str → Option Value} {c : Str} {C : Addr} (X : K.In h) (G : h.Ns mainGlobals mg) (e : clN K c = some C) : mg c = some (.ref C) := by
  unfold clN at e
  cases q : PySem.W.nsIn K mainGlobals c with
  | none => rw [q] at e; cases e
  | some v =>
    rw [q] at e
    cases v with
    | none => cases e
    | some v =>
      cases v with
      | ref a => cases e; exact PySem.W.mg_of X G q
      | _ => cases e
theorem lookup_memS {b : Bool} {k : Str} : ∀ {l : List (Str × Bool)}, l.lookup k = some b → (k, b) ∈ l
  | [], h => by cases h
  | (k', b') :: r, h => by
    rw [List.lookup_cons] at h
    cases q : k == k' with
    | true =>
      rw [q] at h
      cases h
      rw [beq_iff_eq.mp q]
      exact List.mem_cons_self
    | false =>
      rw [q] at h
      exact List.mem_cons_of_mem _ (lookup_memS h)
/-- all own classes that are held as values -/
def excCB (K : PySem.W.Frag) (D : Addr) : Bool :=
  (PySem.W.findIn K (.ref D) "__getattribute__" == some (some (.builtin "BaseException.__getattribute__"))) && ((PySem.W.findIn K (.ref D) "__getattr__" == some none) && ((PySem.W.subIn K (.ref D) (.type "BaseException") == some true) && (PySem.W.hasDictIn K D && ((PySem.W.findIn K (.ref D) "__class__" == some (some (.builtin "object.__class__"))) &&
    ((PySem.W.specialIn K (.builtin "object.__class__") "__get__" == some (some (.builtin "getset_descriptor.__get__"))) && ((PySem.W.takesIn K (.builtin "object.__class__") == some true) && (PySem.W.mroIn K D (.type "object") == some true)))))))
theorem excCB_ok {K : PySem.W.Frag} {D : Addr} (h : excCB K D = true) : ExcC K D := by
  simp only [excCB, Bool.and_eq_true, beq_iff_eq] at h
  obtain ⟨h1, h2, h3, h4, h5, h6, h7, h8⟩ := h
  exact ⟨h1, h2, h3, h4, h5, h6, h7, h8⟩
def xcB (K : PySem.W.Frag) (cs : List Str) : Bool := cs.all fun c => onCls K c (excCB K)
def isTabB (K : PySem.W.Frag) (u : Value) (tab : List (Str × Bool)) : Bool := (tab.all fun p => onCls K p.1 fun C => PySem.W.kitOne K (.ref C) u == some p.2) && tyNames.all fun t => PySem.W.kitOne K (.type t) u == some false
section
variable {K : PySem.W.Frag} {h : Heap} {mg : Str → Option Value} {x : Str} {tab : List (Str × Bool)} {cs : List Str} {TT : List (Addr × Str)}
theorem isTab_ok {u : Value} (h1 : isTabB K u tab = true) (h2 : xcB K cs = true) (h3 : (tab.all fun p => cs.contains p.1) = true) :
    (∀ k b, tab.lookup k = some b → ∃ C, (⟨clN K, TT⟩ : Cls_).at_ k = some C ∧ ExcC K C ∧ PySem.W.kitOne K (.ref C) u = some b) ∧ ∀ t ∈ tyNames, PySem.W.kitOne K (.type t) u = some false := by
  unfold isTabB at h1
  rw [Bool.and_eq_true, List.all_eq_true, List.all_eq_true] at h1
  refine ⟨fun k b q => ?_, fun t ht => beq_iff_eq.mp (h1.2 t ht)⟩
  have m := lookup_memS q
  obtain ⟨C, e1, e2⟩ := onCls_ok (h1.1 _ m)
  have m2 := List.all_eq_true.mp h3 _ m
  obtain ⟨C2, e3, e4⟩ := onCls_ok (List.all_eq_true.mp h2 k (List.contains_iff_mem.mp m2))
  rw [e1] at e3
  cases e3
  exact ⟨C, e1, excCB_ok e4, beq_iff_eq.mp e2⟩
def isOwnB (K : PySem.W.Frag) (x : Str) (tab : List (Str × Bool)) : Bool := onCls K x fun C => isTabB K (.ref C) tab
theorem isV_own (X : K.In h) (G : h.Ns mainGlobals mg) (h1 : isOwnB K x tab = true) (h2 : xcB K cs = true) (h3 : (tab.all fun p => cs.contains p.1) = true) : IsV K mg ⟨clN K, TT⟩ x tab := by
  obtain ⟨C, e1, e2⟩ := onCls_ok h1
  obtain ⟨a, b⟩ := isTab_ok e2 h2 h3
  exact ⟨.ref C, .ref C, .own C, .inl ⟨C, clN_mg X G e1, rfl⟩, a, b⟩
theorem isV_blt {T : String} (hm : mg x = none) (hb : bootBuiltins x = some (.type T)) (hn : x ≠ "__name__") (h1 : isTabB K (.type T) tab = true) (h2 : xcB K cs = true) (h3 : (tab.all fun p => cs.contains p.1) = true) : IsV K mg ⟨clN K, TT⟩ x tab := by
  obtain ⟨a, b⟩ := isTab_ok h1 h2 h3
  exact ⟨.ty T, .type T, .ty T, .inr ⟨T, hm, hb, rfl, hn⟩, a, b⟩
/-- a class over ValueError without own __init__ -/
def exvB (K : PySem.W.Frag) (C : Addr) : Bool := PySem.W.excIn K C [.type "ValueError", .type "Exception", .type "BaseException", .type "object"] "ValueError.__new__" && (PySem.W.keepIn K (.ref C) && ((PySem.W.subIn K (.ref C) (.type "BaseException") == some true) && (PySem.W.typeIn K (.ref C) == some (.type "type"))))
theorem exV_ok (X : K.In h) (G : h.Ns mainGlobals mg) (h1 : onCls K x (exvB K) = true) : ∃ C, ExV K mg ⟨clN K, TT⟩ x C := by
  obtain ⟨C, e1, e2⟩ := onCls_ok h1
  simp only [exvB, Bool.and_eq_true, beq_iff_eq] at e2
  exact ⟨C, e2.1, clN_mg X G e1, e2.2.1, e2.2.2.1, e2.2.2.2, e1⟩
def fldB (K : PySem.W.Frag) (f : Str) (cs : List Str) : Bool := cs.all fun c => onCls K c fun C => xfB K C && (PySem.W.findIn K (.ref C) f == some none)
theorem fldV_ok {f : Str} (h1 : fldB K f cs = true) : FldV K ⟨clN K, TT⟩ f cs := ⟨fun c hc => by
  obtain ⟨C, e1, e2⟩ := onCls_ok (List.all_eq_true.mp h1 c (List.contains_iff_mem.mp hc))
  rw [Bool.and_eq_true, beq_iff_eq] at e2
  exact ⟨C, e1, xfB_ok e2.1, e2.2⟩⟩
end
/-! ### classes with an own __init__ -/
def methSt (st : Stmt) (j : Nat) : Stmt := (C8.clsBody st).getD j (.Pass ⟨0, 0, 0, 0⟩)
section
variable {P : Program} {w : World} {K : PySem.W.Frag} {mg : Str → Option Value} {base : Heap} {TT : List (Addr × Str)}
theorem mkV_of {x f sn n b qual : Str} {ini new0 b1 b2 : String} {C fI : Addr} {st : Stmt} {nm q : Str} {N : Addr} {bs bm : List Value} {sl : List Str} {sub : List Value} {ab : Bool} {col : Option Bool} {dd : Option Addr} {k0 k1 k2 k3 k5 : Option Value}
    {od an : Option Addr} {osl : Array (Option Value)} {oc kV doc pm cdv ct : Value} {p1 p2 p3 p4 p5 p6 p7 p8 p9 p10 : Pos}
    (lx : K.lookup C = some (excClassObj nm q C N bs bm true sl sub ab col dd k0 k1 k2 k3 k5 new0)) (xb : XB b1 new0 b2 ini bm) (sa : PySem.W.findIn K (.ref C) "__setattr__" = some (some (.builtin "object.__setattr__")))
    (iC : PySem.W.findIn K (.ref C) "__init__" = some (some (.ref fI))) (tI : PySem.W.typeIn K (.ref fI) = some (.type "function")) (hno : PySem.W.findIn K (.ref C) f = some none)
    (l : K.lookup fI = some ⟨oc, od, .func (PySem.W.fnOf "__init__" qual (defArgs st) (defBody st) (defScope st) .none kV doc pm an cdv ct), osl⟩) (c : PySem.W.codeIn K cdv qual = true) (kp : PySem.W.keepIn K (.ref fI) = true) (BI : BaseI K mg b ini)
    (S : FnScope [sn, n] [sn, n] (defScope st))
    (hbody : defBody st = [.Expr (.Call (.Attribute (.Name b p1) "__init__" p2) [.Name sn p3, .Name n p4] [] p5) p6, .Assign [.Attribute (.Name sn p7) f p8] (.Name n p9) p10])
    (hsn : Vis (defScope st) sn) (hn : Vis (defScope st) n) (hgb : (defScope st).names.lookup b = some .globalImplicit)
    (hpe : ∀ (X : Cx) (ta : TA), X.K = K → X.mg = mg → Gl X b → PA X [.Name sn p3, .Name n p4] ta → PE X (.Call (.Attribute (.Name b p1) "__init__" p2) [.Name sn p3, .Name n p4] [] p5) (tXI X.K ini ta))
    (d1 : (sn == ("__debug__" : Str)) = false) (d2 : (sn == ("__classdict__" : Str)) = false) (d3 : (n == ("__debug__" : Str)) = false) (d4 : (n == ("__classdict__" : Str)) = false)
    (hs : ∀ Z : PySem.Env, swapsWith (.Name n p9) (some (.Attribute (.Name sn p7) f p8)) p10.line Z = pure false) (hs1 : ∀ Z : PySem.Env, swapsWith (.Call (.Attribute (.Name b p1) "__init__" p2) [.Name sn p3, .Name n p4] [] p5) none p6.line Z = pure false)
    (hb : ∀ (kV doc pm : Value) (an : Option Addr) (cdv ct : Value) (us : List Value), us.length = [sn, n].length → bindArgs (PySem.W.fnOf "__init__" qual (defArgs st) (defBody st) (defScope st) .none kV doc pm an cdv ct) ⟨us, []⟩ = pure ([sn, n].zip us))
    (g : mg x = some (.ref C)) (k : PySem.W.keepIn K (.ref C) = true) (e : clN K x = some C) : MkV P w K mg base ⟨clN K, TT⟩ x f C := by
  have T : OxC K C ini := ⟨⟨nm, q, N, bs, bm, sl, sub, ab, col, dd, k0, k1, k2, k3, k5, b1, new0, b2, lx, xb⟩, sa⟩
  have F := fun_mk (st := st) l c kp
  exact ⟨⟨ini, fI, _, sn, n, T, iC, tI, fn_X F S hbody hsn hn hgb hpe T hno d1 d2 d3 d4 hs hs1, F.binds (ps := [sn, n]) hb⟩, g, k, e⟩
end
end DN
/-! KB: bags with ANY entries, in plain Lean. -/
namespace KB
open PySem PySem.Spec PyProof.Rows L2 DN
def bagD (xs : List Int) : D := .tup (xs.map D.int)
def Wide (xs : List Int) : Prop := 0 < xs.length ∧ xs.length ≤ 5 ∧ ∀ x ∈ xs, -1 ≤ x
def leW (a b : Int) : Bool := decide (b = -1) || (!decide (a = -1) && decide (a ≤ b))
def addW (a b : Int) : Int := if a = -1 ∨ b = -1 then -1 else a + b
def within (xs ys : List Int) : Bool := (xs.zip ys).all fun p => leW p.1 p.2
def sumW (xs ys : List Int) : List Int := (xs.zip ys).map fun p => addW p.1 p.2
def isInt : D → Bool
  | .int _ => true
  | _ => false
def isCount (k : Int) : D → Bool
  | .int i => decide (k ≤ i)
  | _ => false
def isBagOf (k : Int) : D → Bool
  | .tup xs => decide (0 < xs.length) && decide (xs.length ≤ 5) && xs.all (isCount k)
  | _ => false
def Ty2 (d : D) : Prop := Ty d ∧ ∀ xs, d = .tup xs → xs.length ≤ 100 ∧ ∀ x ∈ xs, Ty x
theorem zipD_ints : ∀ xs ys : List Int, zipD (xs.map D.int) (ys.map D.int) = (xs.zip ys).map fun p => D.tup [.int p.1, .int p.2]
  | [], _ => by cases ‹List Int› <;> rfl
  | _ :: _, [] => rfl
  | x :: xs, y :: ys => by simp only [List.map_cons, zipD, List.zip_cons_cons, zipD_ints xs ys]
theorem leW_refl (a : Int) : leW a a = true := by
  unfold leW
  by_cases h : a = -1 <;> simp [h]
theorem leW_trans {a b c : Int} (h1 : leW a b = true) (h2 : leW b c = true) : leW a c = true := by
  unfold leW at *
  simp only [Bool.or_eq_true, Bool.and_eq_true, Bool.not_eq_true', decide_eq_true_eq, decide_eq_false_iff_not] at *
  omega
theorem leW_add {a b : Int} (hb : -1 ≤ b) : leW a (addW a b) = true := by
  unfold leW addW
  simp only [Bool.or_eq_true, Bool.and_eq_true, Bool.not_eq_true', decide_eq_true_eq, decide_eq_false_iff_not]
  split <;> omega
theorem addW_comm (a b : Int) : addW a b = addW b a := by
  unfold addW
  split <;> split <;> omega
theorem addW_wide {a b : Int} (ha : -1 ≤ a) (hb : -1 ≤ b) : -1 ≤ addW a b := by
  unfold addW
  split <;> omega
theorem addW_assoc {a b c : Int} (ha : -1 ≤ a) (hb : -1 ≤ b) (hc : -1 ≤ c) : addW (addW a b) c = addW a (addW b c) := by
  unfold addW
  by_cases h1 : a = -1 <;> by_cases h2 : b = -1 <;> by_cases h3 : c = -1 <;> simp [h1, h2, h3] <;> (try omega)
/-! by places -/
theorem within_iff {xs ys : List Int} (hl : xs.length = ys.length) : within xs ys = true ↔ ∀ i (h : i < xs.length), leW xs[i] (ys[i]'(hl ▸ h)) = true := by
  unfold within
  rw [List.all_eq_true]
  constructor
  · intro h i hi
    exact h (xs[i], ys[i]) (by
      have : (xs.zip ys)[i]'(by rw [List.length_zip]; omega) = (xs[i], ys[i]) := List.getElem_zip
      rw [← this]
      exact List.getElem_mem _)
  · intro h p hp
    obtain ⟨i, hi, e⟩ := List.mem_iff_getElem.mp hp
    have hi' : i < xs.length := by rw [List.length_zip] at hi; omega
    have := h i hi'
    have e2 : (xs.zip ys)[i] = (xs[i], ys[i]) := List.getElem_zip
    rw [← e, e2]
    exact this
theorem within_refl (xs : List Int) : within xs xs = true := (within_iff rfl).mpr fun i h => leW_refl _
theorem within_trans {xs ys zs : List Int} (h1 : xs.length = ys.length) (h2 : ys.length = zs.length) (a : within xs ys = true) (b : within ys zs = true) : within xs zs = true :=
  (within_iff (h1.trans h2)).mpr fun i h => leW_trans ((within_iff h1).mp a i h) ((within_iff h2).mp b i (h1 ▸ h))
theorem sumW_length {xs ys : List Int} (h : xs.length = ys.length) : (sumW xs ys).length = xs.length := by
  unfold sumW
  rw [List.length_map, List.length_zip]
  omega
theorem sumW_get {xs ys : List Int} (h : xs.length = ys.length) (i : Nat) (hi : i < xs.length) : (sumW xs ys)[i]'(by rw [sumW_length h]; exact hi) = addW xs[i] (ys[i]'(h ▸ hi)) := by
  unfold sumW
  rw [List.getElem_map, List.getElem_zip]
theorem sumW_wide {xs ys : List Int} (h : xs.length = ys.length) (a : Wide xs) (b : Wide ys) : Wide (sumW xs ys) := by
  refine ⟨by rw [sumW_length h]; exact a.1, by rw [sumW_length h]; exact a.2.1, fun x hx => ?_⟩
  obtain ⟨i, hi, e⟩ := List.mem_iff_getElem.mp hx
  have hi' : i < xs.length := by rw [sumW_length h] at hi; exact hi
  rw [← e, sumW_get h i hi']
  exact addW_wide (a.2.2 _ (List.getElem_mem _)) (b.2.2 _ (List.getElem_mem _))
theorem sumW_comm {xs ys : List Int} (h : xs.length = ys.length) : sumW xs ys = sumW ys xs := by
  refine List.ext_getElem (by rw [sumW_length h, sumW_length h.symm]; exact h) fun i h1 h2 => ?_
  have hi : i < xs.length := by rw [sumW_length h] at h1; exact h1
  rw [sumW_get h i hi, sumW_get h.symm i (h ▸ hi), addW_comm]
theorem sumW_assoc {xs ys zs : List Int} (h : xs.length = ys.length) (h' : ys.length = zs.length) (a : Wide xs) (b : Wide ys) (c : Wide zs) : sumW (sumW xs ys) zs = sumW xs (sumW ys zs) := by
  have g1 : (sumW xs ys).length = zs.length := by rw [sumW_length h]; omega
  have g2 : xs.length = (sumW ys zs).length := by rw [sumW_length h']; omega
  refine List.ext_getElem (by rw [sumW_length g1, sumW_length g2, sumW_length h]) fun i h1 h2 => ?_
  have hi : i < xs.length := by rw [sumW_length g2] at h2; exact h2
  rw [sumW_get g1 i (by rw [sumW_length h]; exact hi), sumW_get g2 i hi, sumW_get h i hi, sumW_get h' i (h ▸ hi)]
  exact addW_assoc (a.2.2 _ (List.getElem_mem _)) (b.2.2 _ (List.getElem_mem _)) (c.2.2 _ (List.getElem_mem _))
theorem within_sum {xs ys : List Int} (h : xs.length = ys.length) (b : Wide ys) : within xs (sumW xs ys) = true :=
  (within_iff (sumW_length h).symm).mpr fun i hi => by
    rw [sumW_get h i hi]
    exact leW_add (b.2.2 _ (List.getElem_mem _))
/-! comparison of bags -/
theorem toPs_ints : ∀ xs : List Int, toPs (xs.map D.int) = some (xs.map PyData.int)
  | [] => by unfold toPs; rfl
  | x :: xs => by unfold List.map toPs; rw [toPs_ints xs]; unfold toP; rfl
theorem toP_bag (xs : List Int) : toP (bagD xs) = some (.tuple (xs.map PyData.int)) := by unfold bagD toP; rw [toPs_ints]; rfl
theorem lay_ints : ∀ xs : List Int, PyData.canLayAll0 (xs.map PyData.int) = true ∧ PyData.depthAll (xs.map PyData.int) = 0
  | [] => ⟨rfl, rfl⟩
  | x :: xs => by
    obtain ⟨a, b⟩ := lay_ints xs
    constructor
    · unfold List.map PyData.canLayAll0 PyData.canLay0; rw [a]; rfl
    · unfold List.map PyData.depthAll PyData.depth; rw [b]; rfl
theorem sh_bag (xs : List Int) : SeqAt.shaped (.tuple (xs.map PyData.int)) = true := by
  unfold SeqAt.shaped PyData.canLay0 PyData.depth
  rw [(lay_ints xs).1, (lay_ints xs).2]
  rfl
theorem eqv_ints : ∀ xs ys : List Int, PyData.eqvAll (xs.map PyData.int) (ys.map PyData.int) = decide (xs = ys)
  | [], [] => rfl
  | [], _ :: _ => rfl
  | _ :: _, [] => rfl
  | x :: xs, y :: ys => by
    unfold List.map PyData.eqvAll PyData.eqv
    rw [eqv_ints xs ys]
    by_cases h : x = y <;> by_cases h2 : xs = ys <;> simp [h, h2]
theorem eqD_bag (xs ys : List Int) : eqD (bagD xs) (bagD ys) = some (decide (xs = ys)) := by
  unfold eqD
  rw [toP_bag, toP_bag]
  dsimp only
  rw [if_pos ⟨sh_bag xs, sh_bag ys⟩]
  show some (PyData.eqvAll _ _) = _
  rw [eqv_ints]
/-! the bags that stand for a wide one -/
def topW (xs : List Int) : List Int := xs.map fun x => if x = -1 then 10 ^ 39 else x
theorem topW_len (xs : List Int) : (topW xs).length = xs.length := List.length_map _
theorem topW_get (xs : List Int) (i : Nat) (h : i < (topW xs).length) (h' : i < xs.length) : (topW xs)[i] = if xs[i] = -1 then 10 ^ 39 else xs[i] := List.getElem_map _
theorem topW_within (xs : List Int) (h : ∀ x ∈ xs, -1 ≤ x) : within (topW xs) xs = true := by
  have hl : (topW xs).length = xs.length := List.length_map _
  refine (within_iff hl).mpr fun i hi => ?_
  rw [topW_get xs i hi (hl ▸ hi)]
  unfold leW
  simp only [Bool.or_eq_true, Bool.and_eq_true, Bool.not_eq_true', decide_eq_true_eq, decide_eq_false_iff_not]
  split <;> omega
theorem topW_gap {xs ys : List Int} (hl : xs.length = ys.length) (hx : ∀ x ∈ xs, -1 ≤ x) (hy : ∀ y ∈ ys, y ≤ 10 ^ 38) (h : within (topW xs) ys = true) : within xs ys = true := by
  have ht : (topW xs).length = xs.length := List.length_map _
  refine (within_iff hl).mpr fun i hi => ?_
  have := (within_iff (ht.trans hl)).mp h i (by omega)
  rw [topW_get xs i (by omega) hi] at this
  have b := hy _ (List.getElem_mem (hl ▸ hi))
  have p : (10 : Int) ^ 38 < 10 ^ 39 := by decide
  revert this
  unfold leW
  simp only [Bool.or_eq_true, Bool.and_eq_true, Bool.not_eq_true', decide_eq_true_eq, decide_eq_false_iff_not]
  generalize (10 : Int) ^ 38 = q at *
  generalize (10 : Int) ^ 39 = r at *
  split <;> omega
/-- a place turned -/
theorem set_within {xs : List Int} {k : Nat} {v : Int} (hx : ∀ x ∈ xs, -1 ≤ x) (hk : k < xs.length) (hv : 0 ≤ v) (hw : xs[k] = -1 ∨ v ≤ xs[k]) : within ((topW xs).set k v) xs = true := by
  have ht : ((topW xs).set k v).length = xs.length := by rw [List.length_set]; exact List.length_map _
  refine (within_iff ht).mpr fun i hi => ?_
  rw [List.getElem_set]
  have hi' : i < xs.length := by omega
  by_cases e : k = i
  · subst e
    rw [if_pos rfl]
    unfold leW
    simp only [Bool.or_eq_true, Bool.and_eq_true, Bool.not_eq_true', decide_eq_true_eq, decide_eq_false_iff_not]
    omega
  · rw [if_neg e]
    have tl : (topW xs).length = xs.length := List.length_map _
    exact (within_iff tl).mp (topW_within xs hx) i (by omega)
end KB
namespace K00
open PySem PySem.Spec PyProof.Rows L2 DN
abbrev pw : PySem.Program := PySem.Challenge.pw_postedbag_k00_errors_and_what_they_keep
def top (i : Nat) : Stmt := pw.main.body.getD i (.Pass ⟨0, 0, 0, 0⟩)
structure Txt (mg : Str → Option Value) : Prop where
  b_ArithmeticError : mg "ArithmeticError" = none
  b_IndexError : mg "IndexError" = none
  b_KeyError : mg "KeyError" = none
  b_LookupError : mg "LookupError" = none
  b_OverflowError : mg "OverflowError" = none
  b_ValueError : mg "ValueError" = none
  b_abs : mg "abs" = none
  b_int : mg "int" = none
  b_isinstance : mg "isinstance" = none
  b_len : mg "len" = none
  b_max : mg "max" = none
  b_min : mg "min" = none
  b_range : mg "range" = none
  b_repr : mg "repr" = none
abbrev tab_ArithmeticError : List (Str × Bool) := [("BagError", false), ("InvalidProgram", false), ("InvalidBag", false), ("InvalidMode", false), ("InvalidRun", false), ("InvalidWay", false), ("InvalidPlace", false), ("InvalidUses", false), ("InvalidPlan", false), ("InvalidOperation", false), ("InvalidCommand", false), ("ParseError", false), ("UnknownName", false), ("UnknownSite", false), ("InvalidNumber", false), ("NothingToUndo", false), ("Refused", true), ("TooMany", true)]
abbrev tab_BagError : List (Str × Bool) := [("BagError", true), ("InvalidProgram", true), ("InvalidBag", true), ("InvalidMode", true), ("InvalidRun", true), ("InvalidWay", true), ("InvalidPlace", true), ("InvalidUses", true), ("InvalidPlan", true), ("InvalidOperation", true), ("InvalidCommand", true), ("ParseError", true), ("UnknownName", false), ("UnknownSite", false), ("InvalidNumber", false), ("NothingToUndo", false), ("Refused", false), ("TooMany", false)]
abbrev tab_IndexError : List (Str × Bool) := [("BagError", false), ("InvalidProgram", false), ("InvalidBag", false), ("InvalidMode", false), ("InvalidRun", false), ("InvalidWay", false), ("InvalidPlace", false), ("InvalidUses", false), ("InvalidPlan", false), ("InvalidOperation", false), ("InvalidCommand", false), ("ParseError", false), ("UnknownName", false), ("UnknownSite", false), ("InvalidNumber", true), ("NothingToUndo", false), ("Refused", false), ("TooMany", false)]
abbrev tab_InvalidBag : List (Str × Bool) := [("BagError", false), ("InvalidProgram", false), ("InvalidBag", true), ("InvalidMode", false), ("InvalidRun", false), ("InvalidWay", false), ("InvalidPlace", false), ("InvalidUses", false), ("InvalidPlan", false), ("InvalidOperation", false), ("InvalidCommand", false), ("ParseError", false), ("UnknownName", false), ("UnknownSite", false), ("InvalidNumber", false), ("NothingToUndo", false), ("Refused", false), ("TooMany", false)]
abbrev tab_InvalidCommand : List (Str × Bool) := [("BagError", false), ("InvalidProgram", false), ("InvalidBag", false), ("InvalidMode", false), ("InvalidRun", false), ("InvalidWay", false), ("InvalidPlace", false), ("InvalidUses", false), ("InvalidPlan", false), ("InvalidOperation", false), ("InvalidCommand", true), ("ParseError", false), ("UnknownName", false), ("UnknownSite", false), ("InvalidNumber", false), ("NothingToUndo", false), ("Refused", false), ("TooMany", false)]
abbrev tab_InvalidMode : List (Str × Bool) := [("BagError", false), ("InvalidProgram", false), ("InvalidBag", false), ("InvalidMode", true), ("InvalidRun", false), ("InvalidWay", false), ("InvalidPlace", false), ("InvalidUses", false), ("InvalidPlan", false), ("InvalidOperation", false), ("InvalidCommand", false), ("ParseError", false), ("UnknownName", false), ("UnknownSite", false), ("InvalidNumber", false), ("NothingToUndo", false), ("Refused", false), ("TooMany", false)]
abbrev tab_InvalidNumber : List (Str × Bool) := [("BagError", false), ("InvalidProgram", false), ("InvalidBag", false), ("InvalidMode", false), ("InvalidRun", false), ("InvalidWay", false), ("InvalidPlace", false), ("InvalidUses", false), ("InvalidPlan", false), ("InvalidOperation", false), ("InvalidCommand", false), ("ParseError", false), ("UnknownName", false), ("UnknownSite", false), ("InvalidNumber", true), ("NothingToUndo", false), ("Refused", false), ("TooMany", false)]
abbrev tab_InvalidOperation : List (Str × Bool) := [("BagError", false), ("InvalidProgram", false), ("InvalidBag", false), ("InvalidMode", false), ("InvalidRun", false), ("InvalidWay", false), ("InvalidPlace", false), ("InvalidUses", false), ("InvalidPlan", false), ("InvalidOperation", true), ("InvalidCommand", false), ("ParseError", false), ("UnknownName", false), ("UnknownSite", false), ("InvalidNumber", false), ("NothingToUndo", false), ("Refused", false), ("TooMany", false)]
abbrev tab_InvalidPlace : List (Str × Bool) := [("BagError", false), ("InvalidProgram", false), ("InvalidBag", false), ("InvalidMode", false), ("InvalidRun", false), ("InvalidWay", false), ("InvalidPlace", true), ("InvalidUses", false), ("InvalidPlan", false), ("InvalidOperation", false), ("InvalidCommand", false), ("ParseError", false), ("UnknownName", false), ("UnknownSite", false), ("InvalidNumber", false), ("NothingToUndo", false), ("Refused", false), ("TooMany", false)]
abbrev tab_InvalidPlan : List (Str × Bool) := [("BagError", false), ("InvalidProgram", false), ("InvalidBag", false), ("InvalidMode", false), ("InvalidRun", false), ("InvalidWay", false), ("InvalidPlace", false), ("InvalidUses", false), ("InvalidPlan", true), ("InvalidOperation", false), ("InvalidCommand", false), ("ParseError", false), ("UnknownName", false), ("UnknownSite", false), ("InvalidNumber", false), ("NothingToUndo", false), ("Refused", false), ("TooMany", false)]
abbrev tab_InvalidProgram : List (Str × Bool) := [("BagError", false), ("InvalidProgram", true), ("InvalidBag", false), ("InvalidMode", false), ("InvalidRun", false), ("InvalidWay", false), ("InvalidPlace", false), ("InvalidUses", false), ("InvalidPlan", false), ("InvalidOperation", false), ("InvalidCommand", false), ("ParseError", false), ("UnknownName", false), ("UnknownSite", false), ("InvalidNumber", false), ("NothingToUndo", false), ("Refused", false), ("TooMany", false)]
abbrev tab_InvalidRun : List (Str × Bool) := [("BagError", false), ("InvalidProgram", false), ("InvalidBag", false), ("InvalidMode", false), ("InvalidRun", true), ("InvalidWay", false), ("InvalidPlace", false), ("InvalidUses", false), ("InvalidPlan", false), ("InvalidOperation", false), ("InvalidCommand", false), ("ParseError", false), ("UnknownName", false), ("UnknownSite", false), ("InvalidNumber", false), ("NothingToUndo", false), ("Refused", false), ("TooMany", false)]
abbrev tab_InvalidUses : List (Str × Bool) := [("BagError", false), ("InvalidProgram", false), ("InvalidBag", false), ("InvalidMode", false), ("InvalidRun", false), ("InvalidWay", false), ("InvalidPlace", false), ("InvalidUses", true), ("InvalidPlan", false), ("InvalidOperation", false), ("InvalidCommand", false), ("ParseError", false), ("UnknownName", false), ("UnknownSite", false), ("InvalidNumber", false), ("NothingToUndo", false), ("Refused", false), ("TooMany", false)]
abbrev tab_InvalidWay : List (Str × Bool) := [("BagError", false), ("InvalidProgram", false), ("InvalidBag", false), ("InvalidMode", false), ("InvalidRun", false), ("InvalidWay", true), ("InvalidPlace", false), ("InvalidUses", false), ("InvalidPlan", false), ("InvalidOperation", false), ("InvalidCommand", false), ("ParseError", false), ("UnknownName", false), ("UnknownSite", false), ("InvalidNumber", false), ("NothingToUndo", false), ("Refused", false), ("TooMany", false)]
abbrev tab_KeyError : List (Str × Bool) := [("BagError", false), ("InvalidProgram", false), ("InvalidBag", false), ("InvalidMode", false), ("InvalidRun", false), ("InvalidWay", false), ("InvalidPlace", false), ("InvalidUses", false), ("InvalidPlan", false), ("InvalidOperation", false), ("InvalidCommand", false), ("ParseError", false), ("UnknownName", true), ("UnknownSite", true), ("InvalidNumber", false), ("NothingToUndo", false), ("Refused", false), ("TooMany", false)]
abbrev tab_LookupError : List (Str × Bool) := [("BagError", false), ("InvalidProgram", false), ("InvalidBag", false), ("InvalidMode", false), ("InvalidRun", false), ("InvalidWay", false), ("InvalidPlace", false), ("InvalidUses", false), ("InvalidPlan", false), ("InvalidOperation", false), ("InvalidCommand", false), ("ParseError", false), ("UnknownName", true), ("UnknownSite", true), ("InvalidNumber", true), ("NothingToUndo", true), ("Refused", false), ("TooMany", false)]
abbrev tab_NothingToUndo : List (Str × Bool) := [("BagError", false), ("InvalidProgram", false), ("InvalidBag", false), ("InvalidMode", false), ("InvalidRun", false), ("InvalidWay", false), ("InvalidPlace", false), ("InvalidUses", false), ("InvalidPlan", false), ("InvalidOperation", false), ("InvalidCommand", false), ("ParseError", false), ("UnknownName", false), ("UnknownSite", false), ("InvalidNumber", false), ("NothingToUndo", true), ("Refused", false), ("TooMany", false)]
abbrev tab_OverflowError : List (Str × Bool) := [("BagError", false), ("InvalidProgram", false), ("InvalidBag", false), ("InvalidMode", false), ("InvalidRun", false), ("InvalidWay", false), ("InvalidPlace", false), ("InvalidUses", false), ("InvalidPlan", false), ("InvalidOperation", false), ("InvalidCommand", false), ("ParseError", false), ("UnknownName", false), ("UnknownSite", false), ("InvalidNumber", false), ("NothingToUndo", false), ("Refused", false), ("TooMany", true)]
abbrev tab_ParseError : List (Str × Bool) := [("BagError", false), ("InvalidProgram", false), ("InvalidBag", false), ("InvalidMode", false), ("InvalidRun", false), ("InvalidWay", false), ("InvalidPlace", false), ("InvalidUses", false), ("InvalidPlan", false), ("InvalidOperation", false), ("InvalidCommand", false), ("ParseError", true), ("UnknownName", false), ("UnknownSite", false), ("InvalidNumber", false), ("NothingToUndo", false), ("Refused", false), ("TooMany", false)]
abbrev tab_Refused : List (Str × Bool) := [("BagError", false), ("InvalidProgram", false), ("InvalidBag", false), ("InvalidMode", false), ("InvalidRun", false), ("InvalidWay", false), ("InvalidPlace", false), ("InvalidUses", false), ("InvalidPlan", false), ("InvalidOperation", false), ("InvalidCommand", false), ("ParseError", false), ("UnknownName", false), ("UnknownSite", false), ("InvalidNumber", false), ("NothingToUndo", false), ("Refused", true), ("TooMany", false)]
abbrev tab_TooMany : List (Str × Bool) := [("BagError", false), ("InvalidProgram", false), ("InvalidBag", false), ("InvalidMode", false), ("InvalidRun", false), ("InvalidWay", false), ("InvalidPlace", false), ("InvalidUses", false), ("InvalidPlan", false), ("InvalidOperation", false), ("InvalidCommand", false), ("ParseError", false), ("UnknownName", false), ("UnknownSite", false), ("InvalidNumber", false), ("NothingToUndo", false), ("Refused", false), ("TooMany", true)]
abbrev tab_UnknownName : List (Str × Bool) := [("BagError", false), ("InvalidProgram", false), ("InvalidBag", false), ("InvalidMode", false), ("InvalidRun", false), ("InvalidWay", false), ("InvalidPlace", false), ("InvalidUses", false), ("InvalidPlan", false), ("InvalidOperation", false), ("InvalidCommand", false), ("ParseError", false), ("UnknownName", true), ("UnknownSite", false), ("InvalidNumber", false), ("NothingToUndo", false), ("Refused", false), ("TooMany", false)]
abbrev tab_UnknownSite : List (Str × Bool) := [("BagError", false), ("InvalidProgram", false), ("InvalidBag", false), ("InvalidMode", false), ("InvalidRun", false), ("InvalidWay", false), ("InvalidPlace", false), ("InvalidUses", false), ("InvalidPlan", false), ("InvalidOperation", false), ("InvalidCommand", false), ("ParseError", false), ("UnknownName", false), ("UnknownSite", true), ("InvalidNumber", false), ("NothingToUndo", false), ("Refused", false), ("TooMany", false)]
abbrev tab_ValueError : List (Str × Bool) := [("BagError", true), ("InvalidProgram", true), ("InvalidBag", true), ("InvalidMode", true), ("InvalidRun", true), ("InvalidWay", true), ("InvalidPlace", true), ("InvalidUses", true), ("InvalidPlan", true), ("InvalidOperation", true), ("InvalidCommand", true), ("ParseError", true), ("UnknownName", false), ("UnknownSite", false), ("InvalidNumber", false), ("NothingToUndo", false), ("Refused", false), ("TooMany", false)]
abbrev fc_limit : List Str := ["TooMany"]
abbrev fc_line : List Str := ["ParseError"]
abbrev fc_many : List Str := ["NothingToUndo"]
abbrev fc_name : List Str := ["UnknownName", "Refused"]
abbrev fc_site : List Str := ["UnknownSite"]
abbrev fc_value : List Str := ["InvalidNumber"]
abbrev xcls : List Str := ["BagError", "InvalidProgram", "InvalidBag", "InvalidMode", "InvalidRun", "InvalidWay", "InvalidPlace", "InvalidUses", "InvalidPlan", "InvalidOperation", "InvalidCommand", "ParseError", "UnknownName", "UnknownSite", "InvalidNumber", "NothingToUndo", "Refused", "TooMany"]
abbrev s_law_numbers : Stmt := top 20
abbrev N_law_numbers : List Str := ["script", "at", "cell", "whole", "mixed"]
theorem sc_law_numbers : FnScope N_law_numbers ["script", "at"] (defScope s_law_numbers) := ⟨rfl, rfl, rfl, by decide +kernel, rfl, by decide +kernel, by decide +kernel⟩
def b_law_numbers : Sm := cSeq (cAsg (cIf (cB (c2 gLt (cVar 1) (cA gLen (cCons (cVar 0) (cNil))))) (c2 gIx (cVar 0) (cVar 1)) (c2 gAdd (c2 gMul (cC (.int 67)) (cVar 1)) (cC (.int 23)))) (bName 2)) (cSeq (cAsg (c2 gMod (cA gInt (cCons (cA gAbs (cCons (cVar 2) (cNil))) (cNil))) (c2 gPow (c2 gPow (cC (.int 10)) (cC (.int 57))) (cC (.int 11)))) (bName 3)) (cSeq (cAsg (c2 gAdd (c2 gAdd (c2 gAdd (c2 gMul (cVar 3) (cC (.int 1000151))) (c2 gMul (cC (.int 8243)) (cVar 1))) (c2 gMul (cC (.int 43)) (cA gInt (cCons (c2 gLt (cVar 2) (cC (.int 0))) (cNil))))) (cC (.int 9))) (bName 4)) (cRet (cA gLstM (cCons (cA gMax2 (cCons (cC (.int 0)) (cCons (c2 gSub (cVar 3) (c2 gPow (cC (.int 10)) (cC (.int 16)))) (cNil)))) (cCons (c2 gMod (cA gInt (cCons (cVar 4) (cNil))) (cC (.int 1152921504606846877))) (cCons (cC (.int 0)) (cNil))))))))
def F_law_numbers : List D → M D := runF 2 5 b_law_numbers
theorem ok_law_numbers {P : Program} {w : World} {K : PySem.W.Frag} {mg : Str → Option Value} {base : Heap} {cl : Cls_} (T : Txt mg) (fd : Fd K mg "_law_numbers" "_law_numbers" s_law_numbers ["script", "at"]) : Cal P w K mg base cl "_law_numbers" 1 ["script", "at"] F_law_numbers := by
  refine fd.cal sc_law_numbers fun f cdv A outer s H E hr => ?_
  have nd := sc_law_numbers.nd
  have tk : Takes (cxD P w K mg base N_law_numbers "_law_numbers" s_law_numbers f cdv A outer s H E) (fun c d _ H => E c d H) := takes_of rfl rfl rfl rfl
  exact (dss_cons (ds_set 2 nd (de_if (dt_cmp op_ltA od_lt (de_var 1) (de_callB call_len cd_len T.b_len (da_cons (de_var 0) da_nil)) (nomark _)) (de_ix (de_var 0) (de_var 1)) (de_add (de_mul de_int (de_var 1)) de_int))) (dss_cons (ds_set 3 nd (de_mod (de_callTy call_int1 cd_int T.b_int (da_cons (de_callB call_abs cd_abs T.b_abs (da_cons (de_var 2) da_nil)) da_nil)) (de_pow (de_pow de_int de_int) de_int))) (dss_cons (ds_set 4 nd (de_add (de_add (de_add (de_mul (de_var 3) de_int) (de_mul de_int (de_var 1))) (de_mul de_int (de_callTy call_int1 cd_int T.b_int (da_cons (de_cmp op_ltA od_lt (de_var 2) de_int (nomark _)) da_nil)))) de_int)) (dss_one (ds_ret (de_lstM (da_cons (de_callB (call_max2 rfl) cd_max2 T.b_max (da_cons de_int (da_cons (de_sub (de_var 3) (de_pow de_int de_int)) da_nil))) (da_cons (de_mod (de_callTy call_int1 cd_int T.b_int (da_cons (de_var 4) da_nil)) de_int) (da_cons de_int da_nil)))))))))
abbrev s_law_cast : Stmt := top 21
abbrev N_law_cast : List Str := ["die", "total", "one", "two", "found"]
theorem sc_law_cast : FnScope N_law_cast ["die", "total"] (defScope s_law_cast) := ⟨rfl, rfl, rfl, by decide +kernel, rfl, by decide +kernel, by decide +kernel⟩
def b_law_cast : Sm := cSeq (cIfS (cB (c2 gGt (c2 gIx (cVar 0) (cC (.int 0))) (cC (.int 0)))) (cSeq (cAsg (c2 gMod (cA gInt (cCons (c2 gIx (cVar 0) (cC (.int 0))) (cNil))) (cVar 1)) (bName 4)) (cSeq (cSetI (c2 gFdiv (c2 gIx (cVar 0) (cC (.int 0))) (cVar 1)) (cVar 0) (cC (.int 0))) (cRet (cVar 4)))) (cNext)) (cSeq (cSetI (c2 gAdd (c2 gIx (cVar 0) (cC (.int 2))) (cC (.int 1))) (cVar 0) (cC (.int 2))) (cSeq (cAsg (c2 gMod (cA gInt (cCons (c2 gAdd (c2 gIx (cVar 0) (cC (.int 1))) (c2 gMul (cC (.int 654188429)) (c2 gIx (cVar 0) (cC (.int 2))))) (cNil))) (cC (.int 2305843009213693913))) (bName 2)) (cSeq (cAsg (c2 gAdd (c2 gMul (c2 gMod (cA gInt (cCons (c2 gMul (cVar 2) (cVar 2)) (cNil))) (cC (.int 1152921504606846689))) (cVar 2)) (c2 gMul (cC (.int 7213)) (c2 gIx (cVar 0) (cC (.int 2))))) (bName 3)) (cRet (c2 gMod (cA gInt (cCons (c2 gFdiv (c2 gMod (cA gInt (cCons (c2 gAdd (cVar 3) (c2 gIx (cVar 0) (cC (.int 1)))) (cNil))) (cC (.int 8796093022121))) (cC (.int 64))) (cNil))) (cVar 1))))))
def F_law_cast : List D → M D := runF 2 5 b_law_cast
theorem ok_law_cast {P : Program} {w : World} {K : PySem.W.Frag} {mg : Str → Option Value} {base : Heap} {cl : Cls_} (T : Txt mg) (fd : Fd K mg "_law_cast" "_law_cast" s_law_cast ["die", "total"]) : Cal P w K mg base cl "_law_cast" 1 ["die", "total"] F_law_cast := by
  refine fd.cal sc_law_cast fun f cdv A outer s H E hr => ?_
  have nd := sc_law_cast.nd
  have tk : Takes (cxD P w K mg base N_law_cast "_law_cast" s_law_cast f cdv A outer s H E) (fun c d _ H => E c d H) := takes_of rfl rfl rfl rfl
  exact (dss_cons (ds_if (dt_cmp op_gt od_gt (de_ix (de_var 0) de_int) de_int (nomark _)) (dss_cons (ds_set 4 nd (de_mod (de_callTy call_int1 cd_int T.b_int (da_cons (de_ix (de_var 0) de_int) da_nil)) (de_var 1))) (dss_cons (ds_setI (de_fdiv (de_ix (de_var 0) de_int) (de_var 1)) (de_var 0) de_int) (dss_one (ds_ret (de_var 4))))) dss_nil) (dss_cons (ds_setI (de_add (de_ix (de_var 0) de_int) de_int) (de_var 0) de_int) (dss_cons (ds_set 2 nd (de_mod (de_callTy call_int1 cd_int T.b_int (da_cons (de_add (de_ix (de_var 0) de_int) (de_mul de_int (de_ix (de_var 0) de_int))) da_nil)) de_int)) (dss_cons (ds_set 3 nd (de_add (de_mul (de_mod (de_callTy call_int1 cd_int T.b_int (da_cons (de_mul (de_var 2) (de_var 2)) da_nil)) de_int) (de_var 2)) (de_mul de_int (de_ix (de_var 0) de_int)))) (dss_one (ds_ret (de_mod (de_callTy call_int1 cd_int T.b_int (da_cons (de_fdiv (de_mod (de_callTy call_int1 cd_int T.b_int (da_cons (de_add (de_var 3) (de_ix (de_var 0) de_int)) da_nil)) de_int) de_int) da_nil)) (de_var 1))))))))
abbrev s_law_pick : Stmt := top 22
abbrev N_law_pick : List Str := ["die", "items"]
theorem sc_law_pick : FnScope N_law_pick ["die", "items"] (defScope s_law_pick) := ⟨rfl, rfl, rfl, by decide +kernel, rfl, by decide +kernel, by decide +kernel⟩
def b_law_pick : Sm := cRet (c2 gIx (cVar 1) (cCall 2 F_law_cast (cCons (cVar 0) (cCons (cA gLen (cCons (cVar 1) (cNil))) (cNil)))))
def F_law_pick : List D → M D := runF 2 2 b_law_pick
theorem ok_law_pick {P : Program} {w : World} {K : PySem.W.Frag} {mg : Str → Option Value} {base : Heap} {cl : Cls_} (T : Txt mg) (fd : Fd K mg "_law_pick" "_law_pick" s_law_pick ["die", "items"]) (C_law_cast : Cal P w K mg base cl "_law_cast" 1 ["die", "total"] F_law_cast) : Cal P w K mg base cl "_law_pick" 2 ["die", "items"] F_law_pick := by
  refine fd.cal sc_law_pick fun f cdv A outer s H E hr => ?_
  have nd := sc_law_pick.nd
  have tk : Takes (cxD P w K mg base N_law_pick "_law_pick" s_law_pick f cdv A outer s H E) (fun c d _ H => E c d H) := takes_of rfl rfl rfl rfl
  exact (dss_one (ds_ret (de_ix (de_var 1) (de_cal C_law_cast (hr.mono (by decide)) tk (da_cons (de_var 0) (da_cons (de_callB call_len cd_len T.b_len (da_cons (de_var 1) da_nil)) da_nil))))))
abbrev s_law_of_bags : Stmt := top 23
abbrev N_law_of_bags : List Str := ["error", "told", "at"]
theorem sc_law_of_bags : FnScope N_law_of_bags ["error"] (defScope s_law_of_bags) := ⟨rfl, rfl, rfl, by decide +kernel, rfl, by decide +kernel, by decide +kernel⟩
def b_law_of_bags : Sm := cSeq (cAsg (cA gLst (cCons (c1 (gIsO tab_BagError) (cVar 0)) (cCons (c1 (gIsO tab_InvalidProgram) (cVar 0)) (cCons (c1 (gIsO tab_InvalidBag) (cVar 0)) (cNil))))) (bName 1)) (cSeq (cAsg (c2 gAdd (cVar 1) (cA gLst (cCons (c1 (gIsO tab_InvalidMode) (cVar 0)) (cCons (c1 (gIsO tab_InvalidRun) (cVar 0)) (cCons (c1 (gIsO tab_InvalidWay) (cVar 0)) (cNil)))))) (bName 1)) (cSeq (cAsg (c2 gAdd (cVar 1) (cA gLst (cCons (c1 (gIsO tab_InvalidPlace) (cVar 0)) (cCons (c1 (gIsO tab_InvalidUses) (cVar 0)) (cCons (c1 (gIsO tab_InvalidPlan) (cVar 0)) (cNil)))))) (bName 1)) (cSeq (cAsg (c2 gAdd (cVar 1) (cA gLst (cCons (c1 (gIsO tab_InvalidOperation) (cVar 0)) (cCons (c1 (gIsO tab_InvalidCommand) (cVar 0)) (cNil))))) (bName 1)) (cSeq (cAsg (c2 gAdd (cVar 1) (cA gLst (cCons (c1 (gIsO tab_ParseError) (cVar 0)) (cNil)))) (bName 1)) (cRet (cComp (cRng1 (cC (.int 12))) (bName 2) (cB (c2 gIx (cVar 1) (cVar 2))) (cVar 2) [2]))))))
def F_law_of_bags : List D → M D := runF 1 3 b_law_of_bags
theorem ok_law_of_bags {P : Program} {w : World} {K : PySem.W.Frag} {mg : Str → Option Value} {base : Heap} {cl : Cls_} (T : Txt mg) (fd : Fd K mg "_law_of_bags" "_law_of_bags" s_law_of_bags ["error"]) (IS_ParseError : IsV K mg cl "ParseError" tab_ParseError) (IS_InvalidCommand : IsV K mg cl "InvalidCommand" tab_InvalidCommand) (IS_InvalidOperation : IsV K mg cl "InvalidOperation" tab_InvalidOperation) (IS_InvalidPlan : IsV K mg cl "InvalidPlan" tab_InvalidPlan) (IS_InvalidUses : IsV K mg cl "InvalidUses" tab_InvalidUses) (IS_InvalidPlace : IsV K mg cl "InvalidPlace" tab_InvalidPlace) (IS_InvalidWay : IsV K mg cl "InvalidWay" tab_InvalidWay) (IS_InvalidRun : IsV K mg cl "InvalidRun" tab_InvalidRun) (IS_InvalidMode : IsV K mg cl "InvalidMode" tab_InvalidMode) (IS_InvalidBag : IsV K mg cl "InvalidBag" tab_InvalidBag) (IS_InvalidProgram : IsV K mg cl "InvalidProgram" tab_InvalidProgram) (IS_BagError : IsV K mg cl "BagError" tab_BagError) : Cal P w K mg base cl "_law_of_bags" 1 ["error"] F_law_of_bags := by
  refine fd.cal sc_law_of_bags fun f cdv A outer s H E hr => ?_
  have nd := sc_law_of_bags.nd
  have tk : Takes (cxD P w K mg base N_law_of_bags "_law_of_bags" s_law_of_bags f cdv A outer s H E) (fun c d _ H => E c d H) := takes_of rfl rfl rfl rfl
  exact (dss_cons (ds_set 1 nd (de_lst (da_cons (de_isO IS_BagError T.b_isinstance (de_var 0)) (da_cons (de_isO IS_InvalidProgram T.b_isinstance (de_var 0)) (da_cons (de_isO IS_InvalidBag T.b_isinstance (de_var 0)) da_nil))))) (dss_cons (ds_set 1 nd (de_add (de_var 1) (de_lst (da_cons (de_isO IS_InvalidMode T.b_isinstance (de_var 0)) (da_cons (de_isO IS_InvalidRun T.b_isinstance (de_var 0)) (da_cons (de_isO IS_InvalidWay T.b_isinstance (de_var 0)) da_nil)))))) (dss_cons (ds_set 1 nd (de_add (de_var 1) (de_lst (da_cons (de_isO IS_InvalidPlace T.b_isinstance (de_var 0)) (da_cons (de_isO IS_InvalidUses T.b_isinstance (de_var 0)) (da_cons (de_isO IS_InvalidPlan T.b_isinstance (de_var 0)) da_nil)))))) (dss_cons (ds_set 1 nd (de_add (de_var 1) (de_lst (da_cons (de_isO IS_InvalidOperation T.b_isinstance (de_var 0)) (da_cons (de_isO IS_InvalidCommand T.b_isinstance (de_var 0)) da_nil))))) (dss_cons (ds_set 1 nd (de_add (de_var 1) (de_lst (da_cons (de_isO IS_ParseError T.b_isinstance (de_var 0)) da_nil)))) (dss_one (ds_ret (de_lc [("at", 2)] rfl nd (di_rng1 T.b_range de_int) (blkOk_by (own := [("at", 2)]) (N := N_law_of_bags) (sc := defScope s_law_of_bags) (by decide +kernel)) (fun _ _ _ _ _ => (dg_name (i := 2) nd)) (fun _ _ _ _ _ => by exact (dts_one (dt_val (de_ix (de_var 1) (de_var 2))))) (fun _ _ _ _ _ => by exact (de_var 2))))))))))
abbrev s_law_of_others : Stmt := top 24
abbrev N_law_of_others : List Str := ["error", "found"]
theorem sc_law_of_others : FnScope N_law_of_others ["error"] (defScope s_law_of_others) := ⟨rfl, rfl, rfl, by decide +kernel, rfl, by decide +kernel, by decide +kernel⟩
def b_law_of_others : Sm := cSeq (cAsg (c2 gAdd (c2 gMul (cA gLst (cCons (cC (.str "name")) (cNil))) (cA gInt (cCons (c1 (gIsO tab_UnknownName) (cVar 0)) (cNil)))) (c2 gMul (cA gLst (cCons (cC (.str "site")) (cNil))) (cA gInt (cCons (c1 (gIsO tab_UnknownSite) (cVar 0)) (cNil))))) (bName 1)) (cSeq (cAsg (c2 gAdd (cVar 1) (c2 gMul (cA gLst (cCons (cC (.str "number")) (cNil))) (cA gInt (cCons (c1 (gIsO tab_InvalidNumber) (cVar 0)) (cNil))))) (bName 1)) (cSeq (cAsg (c2 gAdd (cVar 1) (c2 gMul (cA gLst (cCons (cC (.str "undo")) (cNil))) (cA gInt (cCons (c1 (gIsO tab_NothingToUndo) (cVar 0)) (cNil))))) (bName 1)) (cSeq (cAsg (c2 gAdd (c2 gAdd (cVar 1) (c2 gMul (cA gLst (cCons (cC (.str "refused")) (cNil))) (cA gInt (cCons (c1 (gIsO tab_Refused) (cVar 0)) (cNil))))) (c2 gMul (cA gLst (cCons (cC (.str "over")) (cNil))) (cA gInt (cCons (c1 (gIsO tab_TooMany) (cVar 0)) (cNil))))) (bName 1)) (cSeq (cAsg (c2 gAdd (c2 gAdd (cVar 1) (c2 gMul (cA gLst (cCons (cC (.str "value")) (cNil))) (cA gInt (cCons (c1 (gIsO tab_ValueError) (cVar 0)) (cNil))))) (c2 gMul (cA gLst (cCons (cC (.str "key")) (cNil))) (cA gInt (cCons (c1 (gIsO tab_KeyError) (cVar 0)) (cNil))))) (bName 1)) (cSeq (cAsg (c2 gAdd (cVar 1) (c2 gMul (cA gLst (cCons (cC (.str "index")) (cNil))) (cA gInt (cCons (c1 (gIsO tab_IndexError) (cVar 0)) (cNil))))) (bName 1)) (cSeq (cAsg (c2 gAdd (cVar 1) (c2 gMul (cA gLst (cCons (cC (.str "lookup")) (cNil))) (cA gInt (cCons (c1 (gIsO tab_LookupError) (cVar 0)) (cNil))))) (bName 1)) (cSeq (cAsg (c2 gAdd (cVar 1) (c2 gMul (cA gLst (cCons (cC (.str "arithmetic")) (cNil))) (cA gInt (cCons (c1 (gIsO tab_ArithmeticError) (cVar 0)) (cNil))))) (bName 1)) (cRet (c2 gAdd (cVar 1) (c2 gMul (cA gLst (cCons (cC (.str "overflow")) (cNil))) (cA gInt (cCons (c1 (gIsO tab_OverflowError) (cVar 0)) (cNil)))))))))))))
def F_law_of_others : List D → M D := runF 1 2 b_law_of_others
theorem ok_law_of_others {P : Program} {w : World} {K : PySem.W.Frag} {mg : Str → Option Value} {base : Heap} {cl : Cls_} (T : Txt mg) (fd : Fd K mg "_law_of_others" "_law_of_others" s_law_of_others ["error"]) (IS_OverflowError : IsV K mg cl "OverflowError" tab_OverflowError) (IS_ArithmeticError : IsV K mg cl "ArithmeticError" tab_ArithmeticError) (IS_LookupError : IsV K mg cl "LookupError" tab_LookupError) (IS_IndexError : IsV K mg cl "IndexError" tab_IndexError) (IS_ValueError : IsV K mg cl "ValueError" tab_ValueError) (IS_KeyError : IsV K mg cl "KeyError" tab_KeyError) (IS_Refused : IsV K mg cl "Refused" tab_Refused) (IS_TooMany : IsV K mg cl "TooMany" tab_TooMany) (IS_NothingToUndo : IsV K mg cl "NothingToUndo" tab_NothingToUndo) (IS_InvalidNumber : IsV K mg cl "InvalidNumber" tab_InvalidNumber) (IS_UnknownName : IsV K mg cl "UnknownName" tab_UnknownName) (IS_UnknownSite : IsV K mg cl "UnknownSite" tab_UnknownSite) : Cal P w K mg base cl "_law_of_others" 1 ["error"] F_law_of_others := by
  refine fd.cal sc_law_of_others fun f cdv A outer s H E hr => ?_
  have nd := sc_law_of_others.nd
  have tk : Takes (cxD P w K mg base N_law_of_others "_law_of_others" s_law_of_others f cdv A outer s H E) (fun c d _ H => E c d H) := takes_of rfl rfl rfl rfl
  exact (dss_cons (ds_set 1 nd (de_add (de_mul (de_lst (da_cons de_str da_nil)) (de_callTy call_int1 cd_int T.b_int (da_cons (de_isO IS_UnknownName T.b_isinstance (de_var 0)) da_nil))) (de_mul (de_lst (da_cons de_str da_nil)) (de_callTy call_int1 cd_int T.b_int (da_cons (de_isO IS_UnknownSite T.b_isinstance (de_var 0)) da_nil))))) (dss_cons (ds_set 1 nd (de_add (de_var 1) (de_mul (de_lst (da_cons de_str da_nil)) (de_callTy call_int1 cd_int T.b_int (da_cons (de_isO IS_InvalidNumber T.b_isinstance (de_var 0)) da_nil))))) (dss_cons (ds_set 1 nd (de_add (de_var 1) (de_mul (de_lst (da_cons de_str da_nil)) (de_callTy call_int1 cd_int T.b_int (da_cons (de_isO IS_NothingToUndo T.b_isinstance (de_var 0)) da_nil))))) (dss_cons (ds_set 1 nd (de_add (de_add (de_var 1) (de_mul (de_lst (da_cons de_str da_nil)) (de_callTy call_int1 cd_int T.b_int (da_cons (de_isO IS_Refused T.b_isinstance (de_var 0)) da_nil)))) (de_mul (de_lst (da_cons de_str da_nil)) (de_callTy call_int1 cd_int T.b_int (da_cons (de_isO IS_TooMany T.b_isinstance (de_var 0)) da_nil))))) (dss_cons (ds_set 1 nd (de_add (de_add (de_var 1) (de_mul (de_lst (da_cons de_str da_nil)) (de_callTy call_int1 cd_int T.b_int (da_cons (de_isO IS_ValueError T.b_isinstance (de_var 0)) da_nil)))) (de_mul (de_lst (da_cons de_str da_nil)) (de_callTy call_int1 cd_int T.b_int (da_cons (de_isO IS_KeyError T.b_isinstance (de_var 0)) da_nil))))) (dss_cons (ds_set 1 nd (de_add (de_var 1) (de_mul (de_lst (da_cons de_str da_nil)) (de_callTy call_int1 cd_int T.b_int (da_cons (de_isO IS_IndexError T.b_isinstance (de_var 0)) da_nil))))) (dss_cons (ds_set 1 nd (de_add (de_var 1) (de_mul (de_lst (da_cons de_str da_nil)) (de_callTy call_int1 cd_int T.b_int (da_cons (de_isO IS_LookupError T.b_isinstance (de_var 0)) da_nil))))) (dss_cons (ds_set 1 nd (de_add (de_var 1) (de_mul (de_lst (da_cons de_str da_nil)) (de_callTy call_int1 cd_int T.b_int (da_cons (de_isO IS_ArithmeticError T.b_isinstance (de_var 0)) da_nil))))) (dss_one (ds_ret (de_add (de_var 1) (de_mul (de_lst (da_cons de_str da_nil)) (de_callTy call_int1 cd_int T.b_int (da_cons (de_isO IS_OverflowError T.b_isinstance (de_var 0)) da_nil))))))))))))))
abbrev s_law_plain_ones : Stmt := top 25
abbrev N_law_plain_ones : List Str := ["word", "found"]
theorem sc_law_plain_ones : FnScope N_law_plain_ones ["word"] (defScope s_law_plain_ones) := ⟨rfl, rfl, rfl, by decide +kernel, rfl, by decide +kernel, by decide +kernel⟩
def b_law_plain_ones : Sm := cSeq (cAsg (cA gLst (cCons (c1 (gMkP "BagError") (cVar 0)) (cCons (c1 (gMkP "InvalidProgram") (cVar 0)) (cCons (c1 (gMkP "InvalidBag") (cVar 0)) (cCons (c1 (gMkP "InvalidMode") (cVar 0)) (cCons (c1 (gMkP "InvalidRun") (cVar 0)) (cNil))))))) (bName 1)) (cSeq (cAsg (c2 gAdd (cVar 1) (cA gLst (cCons (c1 (gMkP "InvalidWay") (cVar 0)) (cCons (c1 (gMkP "InvalidPlace") (cVar 0)) (cCons (c1 (gMkP "InvalidUses") (cVar 0)) (cCons (c1 (gMkP "InvalidPlan") (cVar 0)) (cNil))))))) (bName 1)) (cRet (c2 gAdd (cVar 1) (cA gLst (cCons (c1 (gMkP "InvalidOperation") (cVar 0)) (cCons (c1 (gMkP "InvalidCommand") (cVar 0)) (cNil)))))))
def F_law_plain_ones : List D → M D := runF 1 2 b_law_plain_ones
theorem ok_law_plain_ones {P : Program} {w : World} {K : PySem.W.Frag} {mg : Str → Option Value} {base : Heap} {cl : Cls_} (T : Txt mg) (fd : Fd K mg "_law_plain_ones" "_law_plain_ones" s_law_plain_ones ["word"]) {e_InvalidCommand : Addr} (V_InvalidCommand : ExV K mg cl "InvalidCommand" e_InvalidCommand) {e_InvalidOperation : Addr} (V_InvalidOperation : ExV K mg cl "InvalidOperation" e_InvalidOperation) {e_InvalidPlan : Addr} (V_InvalidPlan : ExV K mg cl "InvalidPlan" e_InvalidPlan) {e_InvalidUses : Addr} (V_InvalidUses : ExV K mg cl "InvalidUses" e_InvalidUses) {e_InvalidPlace : Addr} (V_InvalidPlace : ExV K mg cl "InvalidPlace" e_InvalidPlace) {e_InvalidWay : Addr} (V_InvalidWay : ExV K mg cl "InvalidWay" e_InvalidWay) {e_InvalidRun : Addr} (V_InvalidRun : ExV K mg cl "InvalidRun" e_InvalidRun) {e_InvalidMode : Addr} (V_InvalidMode : ExV K mg cl "InvalidMode" e_InvalidMode) {e_InvalidBag : Addr} (V_InvalidBag : ExV K mg cl "InvalidBag" e_InvalidBag) {e_InvalidProgram : Addr} (V_InvalidProgram : ExV K mg cl "InvalidProgram" e_InvalidProgram) {e_BagError : Addr} (V_BagError : ExV K mg cl "BagError" e_BagError) : Cal P w K mg base cl "_law_plain_ones" 1 ["word"] F_law_plain_ones := by
  refine fd.cal sc_law_plain_ones fun f cdv A outer s H E hr => ?_
  have nd := sc_law_plain_ones.nd
  have tk : Takes (cxD P w K mg base N_law_plain_ones "_law_plain_ones" s_law_plain_ones f cdv A outer s H E) (fun c d _ H => E c d H) := takes_of rfl rfl rfl rfl
  exact (dss_cons (ds_set 1 nd (de_lst (da_cons (de_mkP V_BagError (de_var 0)) (da_cons (de_mkP V_InvalidProgram (de_var 0)) (da_cons (de_mkP V_InvalidBag (de_var 0)) (da_cons (de_mkP V_InvalidMode (de_var 0)) (da_cons (de_mkP V_InvalidRun (de_var 0)) da_nil))))))) (dss_cons (ds_set 1 nd (de_add (de_var 1) (de_lst (da_cons (de_mkP V_InvalidWay (de_var 0)) (da_cons (de_mkP V_InvalidPlace (de_var 0)) (da_cons (de_mkP V_InvalidUses (de_var 0)) (da_cons (de_mkP V_InvalidPlan (de_var 0)) da_nil))))))) (dss_one (ds_ret (de_add (de_var 1) (de_lst (da_cons (de_mkP V_InvalidOperation (de_var 0)) (da_cons (de_mkP V_InvalidCommand (de_var 0)) da_nil))))))))
abbrev s_law_right : Stmt := top 26
abbrev N_law_right : List Str := ["die", "some", "items", "plain", "lost", "told", "keeping", "due", "parse", "unknown", "wrong", "undo", "refused", "over", "turn", "error", "at"]
theorem sc_law_right : FnScope N_law_right ["die"] (defScope s_law_right) := ⟨rfl, rfl, rfl, by decide +kernel, rfl, by decide +kernel, by decide +kernel⟩
def b_law_right : Sm := cSeq (cAsg (cA gLst (cCons (cC (.int 0)) (cCons (cC (.int 7)) (cCons (cC (.str "p")) (cCons (cC (.str "")) (cCons (cA gTup (cCons (cC (.str "p")) (cCons (cC (.int 3)) (cNil)))) (cCons (cC .non) (cCons (c1 gNeg (cC (.int 1))) (cCons (c2 gPow (cC (.int 10)) (cC (.int 39))) (cCons (cA gLst (cCons (cC (.int 1)) (cNil))) (cCons (cC (.dct [])) (cCons (cC (.bl true)) (cCons (cA gTup (cNil)) (cCons (cC (.str "a b")) (cNil))))))))))))))) (bName 1)) (cSeq (cAsg (cComp (cRng1 (cC (.int 7))) (bName 14) (cYes) (cCall 2 F_law_pick (cCons (cVar 0) (cCons (cVar 1) (cNil)))) [14]) (bName 2)) (cSeq (cAsg (cCall 1 F_law_plain_ones (cCons (cCall 2 F_law_pick (cCons (cVar 0) (cCons (cA gLst (cCons (cC (.str "")) (cCons (cC (.str "x")) (cCons (cC (.str "a name")) (cNil))))) (cNil)))) (cNil))) (bName 3)) (cSeq (cIfS (cB (c2 gNe (cComp (cIt (cVar 3)) (bName 15) (cYes) (cCall 1 F_law_of_bags (cCons (cVar 15) (cNil))) [15]) (c2 gAdd (cA gLst (cCons (cA gLst (cCons (cC (.int 0)) (cNil))) (cNil))) (cComp (cRng2 (cC (.int 1)) (cC (.int 11))) (bName 16) (cYes) (cA gLst (cCons (cC (.int 0)) (cCons (cVar 16) (cNil)))) [16])))) (cRet (cC (.bl false))) (cNext)) (cSeq (cIfS (cB (c2 gNe (cComp (cIt (cVar 3)) (bName 15) (cYes) (cCall 1 F_law_of_others (cCons (cVar 15) (cNil))) [15]) (c2 gMul (cA gLst (cCons (cA gLst (cCons (cC (.str "value")) (cNil))) (cNil))) (cC (.int 11))))) (cRet (cC (.bl false))) (cNext)) (cSeq (cPar 8 9 (cCons (c1 (gMkI "ParseError" "line") (c2 gIx (cVar 2) (cC (.int 0)))) (cCons (c1 (gMkI "UnknownName" "name") (c2 gIx (cVar 2) (cC (.int 1)))) (cNil)))) (cSeq (cAsg (c1 (gMkI "UnknownSite" "site") (c2 gIx (cVar 2) (cC (.int 2)))) (bName 4)) (cSeq (cPar 10 11 (cCons (c1 (gMkI "InvalidNumber" "value") (c2 gIx (cVar 2) (cC (.int 3)))) (cCons (c1 (gMkI "NothingToUndo" "many") (c2 gIx (cVar 2) (cC (.int 4)))) (cNil)))) (cSeq (cPar 12 13 (cCons (c1 (gMkI "Refused" "name") (c2 gIx (cVar 2) (cC (.int 5)))) (cCons (c1 (gMkI "TooMany" "limit") (c2 gIx (cVar 2) (cC (.int 6)))) (cNil)))) (cSeq (cAsg (cA gLst (cCons (c1 (gFld "line" fc_line) (cVar 8)) (cCons (c1 (gFld "name" fc_name) (cVar 9)) (cCons (c1 (gFld "site" fc_site) (cVar 4)) (cCons (c1 (gFld "value" fc_value) (cVar 10)) (cCons (c1 (gFld "many" fc_many) (cVar 11)) (cCons (c1 (gFld "name" fc_name) (cVar 12)) (cCons (c1 (gFld "limit" fc_limit) (cVar 13)) (cNil))))))))) (bName 5)) (cSeq (cIfS (cOrB (cB (c2 gNe (cA gReprS (cCons (cVar 5) (cNil))) (cA gReprS (cCons (cVar 2) (cNil))))) (cB (c2 gNe (cCall 1 F_law_of_bags (cCons (cVar 8) (cNil))) (cA gLst (cCons (cC (.int 0)) (cCons (cC (.int 11)) (cNil))))))) (cRet (cC (.bl false))) (cNext)) (cSeq (cIfS (cB (c2 gNe (cCall 1 F_law_of_others (cCons (cVar 8) (cNil))) (cA gLst (cCons (cC (.str "value")) (cNil))))) (cRet (cC (.bl false))) (cNext)) (cSeq (cAsg (cA gLst (cCons (cVar 9) (cCons (cVar 4) (cCons (cVar 10) (cCons (cVar 11) (cCons (cVar 12) (cCons (cVar 13) (cNil)))))))) (bName 6)) (cSeq (cIfS (cB (c2 gNe (cComp (cIt (cVar 6)) (bName 15) (cYes) (cCall 1 F_law_of_bags (cCons (cVar 15) (cNil))) [15]) (c2 gMul (cA gLst (cCons (cA gLst (cNil)) (cNil))) (cC (.int 6))))) (cRet (cC (.bl false))) (cNext)) (cSeq (cAsg (cA gLst (cCons (cA gLst (cCons (cC (.str "name")) (cCons (cC (.str "key")) (cCons (cC (.str "lookup")) (cNil))))) (cCons (cA gLst (cCons (cC (.str "site")) (cCons (cC (.str "key")) (cCons (cC (.str "lookup")) (cNil))))) (cCons (cA gLst (cCons (cC (.str "number")) (cCons (cC (.str "index")) (cCons (cC (.str "lookup")) (cNil))))) (cCons (cA gLst (cCons (cC (.str "undo")) (cCons (cC (.str "lookup")) (cNil)))) (cNil)))))) (bName 7)) (cSeq (cAsg (c2 gAdd (cVar 7) (cA gLst (cCons (cA gLst (cCons (cC (.str "refused")) (cCons (cC (.str "arithmetic")) (cNil)))) (cCons (cA gLst (cCons (cC (.str "over")) (cCons (cC (.str "arithmetic")) (cCons (cC (.str "overflow")) (cNil))))) (cNil))))) (bName 7)) (cRet (c2 gEqX (cComp (cIt (cVar 6)) (bName 15) (cYes) (cCall 1 F_law_of_others (cCons (cVar 15) (cNil))) [15]) (cVar 7))))))))))))))))))
def F_law_right : List D → M D := runF 1 17 b_law_right
theorem ok_law_right {P : Program} {w : World} {K : PySem.W.Frag} {mg : Str → Option Value} {base : Heap} {cl : Cls_} (T : Txt mg) (fd : Fd K mg "_law_right" "_law_right" s_law_right ["die"]) {e_TooMany : Addr} (K_TooMany : MkV P w K mg base cl "TooMany" "limit" e_TooMany) {e_Refused : Addr} (K_Refused : MkV P w K mg base cl "Refused" "name" e_Refused) {e_NothingToUndo : Addr} (K_NothingToUndo : MkV P w K mg base cl "NothingToUndo" "many" e_NothingToUndo) {e_InvalidNumber : Addr} (K_InvalidNumber : MkV P w K mg base cl "InvalidNumber" "value" e_InvalidNumber) {e_UnknownSite : Addr} (K_UnknownSite : MkV P w K mg base cl "UnknownSite" "site" e_UnknownSite) {e_UnknownName : Addr} (K_UnknownName : MkV P w K mg base cl "UnknownName" "name" e_UnknownName) {e_ParseError : Addr} (K_ParseError : MkV P w K mg base cl "ParseError" "line" e_ParseError) (FL_limit : FldV K cl "limit" fc_limit) (FL_name : FldV K cl "name" fc_name) (FL_many : FldV K cl "many" fc_many) (FL_value : FldV K cl "value" fc_value) (FL_site : FldV K cl "site" fc_site) (FL_line : FldV K cl "line" fc_line) (C_law_of_others : Cal P w K mg base cl "_law_of_others" 1 ["error"] F_law_of_others) (C_law_of_bags : Cal P w K mg base cl "_law_of_bags" 1 ["error"] F_law_of_bags) (C_law_plain_ones : Cal P w K mg base cl "_law_plain_ones" 1 ["word"] F_law_plain_ones) (C_law_pick : Cal P w K mg base cl "_law_pick" 2 ["die", "items"] F_law_pick) : CalG P w K mg base cl "_law_right" 3 ["die"] F_law_right := by
  refine fd.calG sc_law_right fun f cdv A outer s H E gu hr => ?_
  have nd := sc_law_right.nd
  have tk : Takes (cxD P w K mg base N_law_right "_law_right" s_law_right f cdv A outer s H E) (fun c d _ H => E c d H) := takes_of rfl rfl rfl rfl
  exact (dss_cons (ds_set 1 nd (de_lst (da_cons de_int (da_cons de_int (da_cons de_str (da_cons de_str (da_cons (de_tup (da_cons de_str (da_cons de_int da_nil))) (da_cons de_non (da_cons (de_neg de_int) (da_cons (de_pow de_int de_int) (da_cons (de_lst (da_cons de_int da_nil)) (da_cons de_dnew (da_cons de_bl (da_cons (de_tup da_nil) (da_cons de_str da_nil))))))))))))))) (dss_cons (ds_setLc 2 [("turn", 14)] rfl nd (di_rng1 T.b_range de_int) (blkOk_by (own := [("turn", 14)]) (N := N_law_right) (sc := defScope s_law_right) (by decide +kernel)) (fun _ _ _ _ _ => (dg_name (i := 14) nd)) (fun _ _ _ _ _ => by exact dts_nil) (fun _ _ _ _ _ => by exact (de_cal C_law_pick (hr.mono (by decide)) takes0 (da_cons (de_var 0) (da_cons (de_var 1) da_nil))))) (dss_cons (ds_set 3 nd (de_cal C_law_plain_ones (hr.mono (by decide)) tk (da_cons (de_cal C_law_pick (hr.mono (by decide)) tk (da_cons (de_var 0) (da_cons (de_lst (da_cons de_str (da_cons de_str (da_cons de_str da_nil)))) da_nil))) da_nil))) (dss_cons (ds_if (dt_cmp (op_neD hr.units) od_ne (de_lc [("error", 15)] rfl nd (di_seq (de_var 3)) (blkOk_by (own := [("error", 15)]) (N := N_law_right) (sc := defScope s_law_right) (by decide +kernel)) (fun _ _ _ _ _ => (dg_name (i := 15) nd)) (fun _ _ _ _ _ => by exact dts_nil) (fun _ _ _ _ _ => by exact (de_cal C_law_of_bags (hr.mono (by decide)) takes0 (da_cons (de_var 15) da_nil)))) (de_add (de_lst (da_cons (de_lst (da_cons de_int da_nil)) da_nil)) (de_lc [("at", 16)] rfl nd (di_rng2 T.b_range de_int de_int) (blkOk_by (own := [("at", 16)]) (N := N_law_right) (sc := defScope s_law_right) (by decide +kernel)) (fun _ _ _ _ _ => (dg_name (i := 16) nd)) (fun _ _ _ _ _ => by exact dts_nil) (fun _ _ _ _ _ => by exact (de_lst (da_cons de_int (da_cons (de_var 16) da_nil)))))) (nomark _)) (dss_one (ds_ret de_bl)) dss_nil) (dss_cons (ds_if (dt_cmp (op_neD hr.units) od_ne (de_lc [("error", 15)] rfl nd (di_seq (de_var 3)) (blkOk_by (own := [("error", 15)]) (N := N_law_right) (sc := defScope s_law_right) (by decide +kernel)) (fun _ _ _ _ _ => (dg_name (i := 15) nd)) (fun _ _ _ _ _ => by exact dts_nil) (fun _ _ _ _ _ => by exact (de_cal C_law_of_others (hr.mono (by decide)) takes0 (da_cons (de_var 15) da_nil)))) (de_mul (de_lst (da_cons (de_lst (da_cons de_str da_nil)) da_nil)) de_int) (nomark _)) (dss_one (ds_ret de_bl)) dss_nil) (dss_cons (ds_par 8 9 rfl nd (da_cons (de_mkI K_ParseError (hr.mono (by decide)) (de_ix (de_var 2) de_int)) (da_cons (de_mkI K_UnknownName (hr.mono (by decide)) (de_ix (de_var 2) de_int)) da_nil))) (dss_cons (ds_set 4 nd (de_mkI K_UnknownSite (hr.mono (by decide)) (de_ix (de_var 2) de_int))) (dss_cons (ds_par 10 11 rfl nd (da_cons (de_mkI K_InvalidNumber (hr.mono (by decide)) (de_ix (de_var 2) de_int)) (da_cons (de_mkI K_NothingToUndo (hr.mono (by decide)) (de_ix (de_var 2) de_int)) da_nil))) (dss_cons (ds_par 12 13 rfl nd (da_cons (de_mkI K_Refused (hr.mono (by decide)) (de_ix (de_var 2) de_int)) (da_cons (de_mkI K_TooMany (hr.mono (by decide)) (de_ix (de_var 2) de_int)) da_nil))) (dss_cons (ds_set 5 nd (de_lst (da_cons (de_fldX FL_line (de_var 8)) (da_cons (de_fldX FL_name (de_var 9)) (da_cons (de_fldX FL_site (de_var 4)) (da_cons (de_fldX FL_value (de_var 10)) (da_cons (de_fldX FL_many (de_var 11)) (da_cons (de_fldX FL_name (de_var 12)) (da_cons (de_fldX FL_limit (de_var 13)) da_nil))))))))) (dss_cons (ds_if (dw_t (dw_or (dt_cmp (op_neD hr.units) od_ne (de_callB (call_reprS gu hr.units) cd_reprS T.b_repr (da_cons (de_var 5) da_nil)) (de_callB (call_reprS gu hr.units) cd_reprS T.b_repr (da_cons (de_var 2) da_nil)) (nomark _)) (dw_or1 (dt_cmp (op_neD hr.units) od_ne (de_cal C_law_of_bags (hr.mono (by decide)) tk (da_cons (de_var 8) da_nil)) (de_lst (da_cons de_int (da_cons de_int da_nil))) (nomark _))))) (dss_one (ds_ret de_bl)) dss_nil) (dss_cons (ds_if (dt_cmp (op_neD hr.units) od_ne (de_cal C_law_of_others (hr.mono (by decide)) tk (da_cons (de_var 8) da_nil)) (de_lst (da_cons de_str da_nil)) (nomark _)) (dss_one (ds_ret de_bl)) dss_nil) (dss_cons (ds_set 6 nd (de_lst (da_cons (de_var 9) (da_cons (de_var 4) (da_cons (de_var 10) (da_cons (de_var 11) (da_cons (de_var 12) (da_cons (de_var 13) da_nil)))))))) (dss_cons (ds_if (dt_cmp (op_neD hr.units) od_ne (de_lc [("error", 15)] rfl nd (di_seq (de_var 6)) (blkOk_by (own := [("error", 15)]) (N := N_law_right) (sc := defScope s_law_right) (by decide +kernel)) (fun _ _ _ _ _ => (dg_name (i := 15) nd)) (fun _ _ _ _ _ => by exact dts_nil) (fun _ _ _ _ _ => by exact (de_cal C_law_of_bags (hr.mono (by decide)) takes0 (da_cons (de_var 15) da_nil)))) (de_mul (de_lst (da_cons (de_lst da_nil) da_nil)) de_int) (nomark _)) (dss_one (ds_ret de_bl)) dss_nil) (dss_cons (ds_set 7 nd (de_lst (da_cons (de_lst (da_cons de_str (da_cons de_str (da_cons de_str da_nil)))) (da_cons (de_lst (da_cons de_str (da_cons de_str (da_cons de_str da_nil)))) (da_cons (de_lst (da_cons de_str (da_cons de_str (da_cons de_str da_nil)))) (da_cons (de_lst (da_cons de_str (da_cons de_str da_nil))) da_nil)))))) (dss_cons (ds_set 7 nd (de_add (de_var 7) (de_lst (da_cons (de_lst (da_cons de_str (da_cons de_str da_nil))) (da_cons (de_lst (da_cons de_str (da_cons de_str (da_cons de_str da_nil)))) da_nil))))) (dss_one (ds_ret (de_cmp (op_eqX hr.units) od_eqX (de_lc [("error", 15)] rfl nd (di_seq (de_var 6)) (blkOk_by (own := [("error", 15)]) (N := N_law_right) (sc := defScope s_law_right) (by decide +kernel)) (fun _ _ _ _ _ => (dg_name (i := 15) nd)) (fun _ _ _ _ _ => by exact dts_nil) (fun _ _ _ _ _ => by exact (de_cal C_law_of_others (hr.mono (by decide)) takes0 (da_cons (de_var 15) da_nil)))) (de_var 7) (nomark _))))))))))))))))))))
abbrev s_law : Stmt := top 27
abbrev N_law : List Str := ["script", "at"]
theorem sc_law : FnScope N_law ["script"] (defScope s_law) := ⟨rfl, rfl, rfl, by decide +kernel, rfl, by decide +kernel, by decide +kernel⟩
def b_law : Sm := cSeq (cFor (cRng1 (cA gMax2 (cCons (cC (.int 1)) (cCons (cA gMin2 (cCons (cC (.int 8)) (cCons (cA gLen (cCons (cVar 0) (cNil))) (cNil)))) (cNil))))) (bName 1) (cIfS (cNotB (cB (cCall 1 F_law_right (cCons (cCall 2 F_law_numbers (cCons (cVar 0) (cCons (cVar 1) (cNil)))) (cNil))))) (cRet (cC (.bl false))) (cNext))) (cRet (cC (.bl true)))
def F_law : List D → M D := runF 1 2 b_law
theorem ok_law {P : Program} {w : World} {K : PySem.W.Frag} {mg : Str → Option Value} {base : Heap} {cl : Cls_} {f : Addr} {fdat : FuncData} (T : Txt mg) (F : Fun K "law" "law" s_law f fdat) (C_law_right : CalG P w K mg base cl "_law_right" 3 ["die"] F_law_right) (C_law_numbers : Cal P w K mg base cl "_law_numbers" 1 ["script", "at"] F_law_numbers) : FnG P w K mg base cl 4 f fdat ["script"] F_law := by
  refine fn_DG F sc_law fun cdv A outer s H E gu hr => ?_
  have nd := sc_law.nd
  have tk : Takes (cxD P w K mg base N_law "law" s_law f cdv A outer s H E) (fun c d _ H => E c d H) := takes_of rfl rfl rfl rfl
  exact (dss_cons (ds_for (passes_of rfl) rfl (di_rng1 T.b_range (de_callB (call_max2 rfl) cd_max2 T.b_max (da_cons de_int (da_cons (de_callB (call_min2 rfl) cd_min2 T.b_min (da_cons de_int (da_cons (de_callB call_len cd_len T.b_len (da_cons (de_var 0) da_nil)) da_nil))) da_nil)))) (dg_name (i := 1) nd) (dss_one (ds_if (dt_not (dt_val (de_calG C_law_right gu (hr.mono (by decide)) tk (da_cons (de_cal C_law_numbers (hr.mono (by decide)) tk (da_cons (de_var 0) (da_cons (de_var 1) da_nil))) da_nil)))) (dss_one (ds_ret de_bl)) dss_nil))) (dss_one (ds_ret de_bl)))
end K00
namespace K00
open PySem PySem.Spec PyProof.Rows L2 DN KB
theorem run_numbers (ns : List Int) (k : Nat) (S : Store) : ∃ S', F_law_numbers [.scr ns, .int k] S = .ok (.mut S.length) S' ∧ IsDie S.length S' := by
  refine wl_run rfl ?_
  refine wl_asg ?_
  have hc : ∃ v, Wp (fun S' => S' = S) (cIf (cB (c2 gLt (cVar 1) (cA gLen (cCons (cVar 0) (cNil))))) (c2 gIx (cVar 0) (cVar 1)) (c2 gAdd (c2 gMul (cC (.int 67)) (cVar 1)) (cC (.int 23))) [Sl.val (.scr ns), Sl.val (.int k), Sl.un, Sl.un, Sl.un]) (fun d => d = D.int v) X0 := by
    by_cases hk : (k : Int) < ns.length
    · obtain ⟨v, e, _⟩ := at_some (xs := ns) (i := k) (by omega) hk
      refine ⟨v, ?_⟩
      (repeat (first | with_reducible refine w_c2 ?_ | with_reducible refine w_c1 ?_ | with_reducible refine w_cA ?_ | with_reducible refine w_cons ?_ | with_reducible refine w_nil ?_ | with_reducible refine w_c ?_ | with_reducible refine w_call ?_ | with_reducible refine w_it ?_ | with_reducible refine w_rng1 ?_ | with_reducible refine w_rng2 ?_ | with_reducible refine w_m0 ?_ | with_reducible refine w_m1 ?_ | with_reducible refine w_sl ?_ | with_reducible refine w_part ?_ | with_reducible refine w_noP ?_ | with_reducible refine w_b ?_ | with_reducible refine w_notB ?_ | with_reducible refine w_if ?_ | with_reducible refine w_chain ?_ | with_reducible refine w_zip ?_ | with_reducible refine w_enum ?_ | with_reducible refine wg_add ?_ | with_reducible refine wg_sub ?_ | with_reducible refine wg_neg ?_ | with_reducible refine wg_lt ?_ | with_reducible refine wg_le ?_ | with_reducible refine wg_gt ?_ | with_reducible refine wg_ge ?_ | with_reducible refine wg_not ?_ | with_reducible refine wg_lenL ?_ | with_reducible refine wg_lenT ?_ | with_reducible refine wg_lenC ?_ | with_reducible refine wg_int ?_ | with_reducible refine wg_intB ?_ | with_reducible refine wg_abs ?_ | with_reducible refine wg_max2 ?_ | with_reducible refine wg_min2 ?_ | with_reducible refine wg_reprB ?_ | with_reducible refine wg_itL ?_ | with_reducible refine wg_itT ?_ | with_reducible refine wg_itC ?_ | with_reducible refine wg_itS ?_ | with_reducible refine wg_slL ?_ | with_reducible refine wg_slT ?_ | with_reducible refine wg_tupleL ?_ | with_reducible refine wg_tupleT ?_ | with_reducible refine wg_listL ?_ | with_reducible refine wg_listT ?_ | with_reducible refine wg_revL ?_ | with_reducible refine wg_revT ?_ | with_reducible refine wg_zipT ?_ | with_reducible refine wg_allM ?_ | with_reducible refine wg_anyM ?_ | with_reducible refine w_var (by with_unfolding_all rfl) ?_ | with_reducible refine wg_mul (Or.inr (by decide)) ?_ | with_reducible refine wg_mul (Or.inl (by decide)) ?_ | with_reducible refine wg_mod (by decide +kernel) ?_ | with_reducible refine wg_fdiv (by decide) ?_ | with_reducible refine wg_pow (by decide +kernel) ?_ | with_reducible refine wg_tup (by simp; done) ?_ | with_reducible refine wg_lst (by simp; done) ?_ | with_reducible refine w_dieSet (by decide) ?_ | with_reducible refine w_dieAt (by decide) (fun _ => ?_) | refine ⟨_, rfl, ?_⟩ | refine ⟨rfl, ?_⟩))
      refine ⟨fun _ => ?_, fun h => absurd (decide_eq_true hk) (by rw [h]; decide)⟩
      (repeat (first | with_reducible refine w_c2 ?_ | with_reducible refine w_c1 ?_ | with_reducible refine w_cA ?_ | with_reducible refine w_cons ?_ | with_reducible refine w_nil ?_ | with_reducible refine w_c ?_ | with_reducible refine w_call ?_ | with_reducible refine w_it ?_ | with_reducible refine w_rng1 ?_ | with_reducible refine w_rng2 ?_ | with_reducible refine w_m0 ?_ | with_reducible refine w_m1 ?_ | with_reducible refine w_sl ?_ | with_reducible refine w_part ?_ | with_reducible refine w_noP ?_ | with_reducible refine w_b ?_ | with_reducible refine w_notB ?_ | with_reducible refine w_if ?_ | with_reducible refine w_chain ?_ | with_reducible refine w_zip ?_ | with_reducible refine w_enum ?_ | with_reducible refine wg_add ?_ | with_reducible refine wg_sub ?_ | with_reducible refine wg_neg ?_ | with_reducible refine wg_lt ?_ | with_reducible refine wg_le ?_ | with_reducible refine wg_gt ?_ | with_reducible refine wg_ge ?_ | with_reducible refine wg_not ?_ | with_reducible refine wg_lenL ?_ | with_reducible refine wg_lenT ?_ | with_reducible refine wg_lenC ?_ | with_reducible refine wg_int ?_ | with_reducible refine wg_intB ?_ | with_reducible refine wg_abs ?_ | with_reducible refine wg_max2 ?_ | with_reducible refine wg_min2 ?_ | with_reducible refine wg_reprB ?_ | with_reducible refine wg_itL ?_ | with_reducible refine wg_itT ?_ | with_reducible refine wg_itC ?_ | with_reducible refine wg_itS ?_ | with_reducible refine wg_slL ?_ | with_reducible refine wg_slT ?_ | with_reducible refine wg_tupleL ?_ | with_reducible refine wg_tupleT ?_ | with_reducible refine wg_listL ?_ | with_reducible refine wg_listT ?_ | with_reducible refine wg_revL ?_ | with_reducible refine wg_revT ?_ | with_reducible refine wg_zipT ?_ | with_reducible refine wg_allM ?_ | with_reducible refine wg_anyM ?_ | with_reducible refine w_var (by with_unfolding_all rfl) ?_ | with_reducible refine wg_mul (Or.inr (by decide)) ?_ | with_reducible refine wg_mul (Or.inl (by decide)) ?_ | with_reducible refine wg_mod (by decide +kernel) ?_ | with_reducible refine wg_fdiv (by decide) ?_ | with_reducible refine wg_pow (by decide +kernel) ?_ | with_reducible refine wg_tup (by simp; done) ?_ | with_reducible refine wg_lst (by simp; done) ?_ | with_reducible refine w_dieSet (by decide) ?_ | with_reducible refine w_dieAt (by decide) (fun _ => ?_) | refine ⟨_, rfl, ?_⟩ | refine ⟨rfl, ?_⟩))
      exact wg_ixC e rfl
    · refine ⟨67 * k + 23, ?_⟩
      (repeat (first | with_reducible refine w_c2 ?_ | with_reducible refine w_c1 ?_ | with_reducible refine w_cA ?_ | with_reducible refine w_cons ?_ | with_reducible refine w_nil ?_ | with_reducible refine w_c ?_ | with_reducible refine w_call ?_ | with_reducible refine w_it ?_ | with_reducible refine w_rng1 ?_ | with_reducible refine w_rng2 ?_ | with_reducible refine w_m0 ?_ | with_reducible refine w_m1 ?_ | with_reducible refine w_sl ?_ | with_reducible refine w_part ?_ | with_reducible refine w_noP ?_ | with_reducible refine w_b ?_ | with_reducible refine w_notB ?_ | with_reducible refine w_if ?_ | with_reducible refine w_chain ?_ | with_reducible refine w_zip ?_ | with_reducible refine w_enum ?_ | with_reducible refine wg_add ?_ | with_reducible refine wg_sub ?_ | with_reducible refine wg_neg ?_ | with_reducible refine wg_lt ?_ | with_reducible refine wg_le ?_ | with_reducible refine wg_gt ?_ | with_reducible refine wg_ge ?_ | with_reducible refine wg_not ?_ | with_reducible refine wg_lenL ?_ | with_reducible refine wg_lenT ?_ | with_reducible refine wg_lenC ?_ | with_reducible refine wg_int ?_ | with_reducible refine wg_intB ?_ | with_reducible refine wg_abs ?_ | with_reducible refine wg_max2 ?_ | with_reducible refine wg_min2 ?_ | with_reducible refine wg_reprB ?_ | with_reducible refine wg_itL ?_ | with_reducible refine wg_itT ?_ | with_reducible refine wg_itC ?_ | with_reducible refine wg_itS ?_ | with_reducible refine wg_slL ?_ | with_reducible refine wg_slT ?_ | with_reducible refine wg_tupleL ?_ | with_reducible refine wg_tupleT ?_ | with_reducible refine wg_listL ?_ | with_reducible refine wg_listT ?_ | with_reducible refine wg_revL ?_ | with_reducible refine wg_revT ?_ | with_reducible refine wg_zipT ?_ | with_reducible refine wg_allM ?_ | with_reducible refine wg_anyM ?_ | with_reducible refine w_var (by with_unfolding_all rfl) ?_ | with_reducible refine wg_mul (Or.inr (by decide)) ?_ | with_reducible refine wg_mul (Or.inl (by decide)) ?_ | with_reducible refine wg_mod (by decide +kernel) ?_ | with_reducible refine wg_fdiv (by decide) ?_ | with_reducible refine wg_pow (by decide +kernel) ?_ | with_reducible refine wg_tup (by simp; done) ?_ | with_reducible refine wg_lst (by simp; done) ?_ | with_reducible refine w_dieSet (by decide) ?_ | with_reducible refine w_dieAt (by decide) (fun _ => ?_) | refine ⟨_, rfl, ?_⟩ | refine ⟨rfl, ?_⟩))
      refine ⟨fun h => absurd (of_decide_eq_true h) hk, fun _ => ?_⟩
      (repeat (first | with_reducible refine w_c2 ?_ | with_reducible refine w_c1 ?_ | with_reducible refine w_cA ?_ | with_reducible refine w_cons ?_ | with_reducible refine w_nil ?_ | with_reducible refine w_c ?_ | with_reducible refine w_call ?_ | with_reducible refine w_it ?_ | with_reducible refine w_rng1 ?_ | with_reducible refine w_rng2 ?_ | with_reducible refine w_m0 ?_ | with_reducible refine w_m1 ?_ | with_reducible refine w_sl ?_ | with_reducible refine w_part ?_ | with_reducible refine w_noP ?_ | with_reducible refine w_b ?_ | with_reducible refine w_notB ?_ | with_reducible refine w_if ?_ | with_reducible refine w_chain ?_ | with_reducible refine w_zip ?_ | with_reducible refine w_enum ?_ | with_reducible refine wg_add ?_ | with_reducible refine wg_sub ?_ | with_reducible refine wg_neg ?_ | with_reducible refine wg_lt ?_ | with_reducible refine wg_le ?_ | with_reducible refine wg_gt ?_ | with_reducible refine wg_ge ?_ | with_reducible refine wg_not ?_ | with_reducible refine wg_lenL ?_ | with_reducible refine wg_lenT ?_ | with_reducible refine wg_lenC ?_ | with_reducible refine wg_int ?_ | with_reducible refine wg_intB ?_ | with_reducible refine wg_abs ?_ | with_reducible refine wg_max2 ?_ | with_reducible refine wg_min2 ?_ | with_reducible refine wg_reprB ?_ | with_reducible refine wg_itL ?_ | with_reducible refine wg_itT ?_ | with_reducible refine wg_itC ?_ | with_reducible refine wg_itS ?_ | with_reducible refine wg_slL ?_ | with_reducible refine wg_slT ?_ | with_reducible refine wg_tupleL ?_ | with_reducible refine wg_tupleT ?_ | with_reducible refine wg_listL ?_ | with_reducible refine wg_listT ?_ | with_reducible refine wg_revL ?_ | with_reducible refine wg_revT ?_ | with_reducible refine wg_zipT ?_ | with_reducible refine wg_allM ?_ | with_reducible refine wg_anyM ?_ | with_reducible refine w_var (by with_unfolding_all rfl) ?_ | with_reducible refine wg_mul (Or.inr (by decide)) ?_ | with_reducible refine wg_mul (Or.inl (by decide)) ?_ | with_reducible refine wg_mod (by decide +kernel) ?_ | with_reducible refine wg_fdiv (by decide) ?_ | with_reducible refine wg_pow (by decide +kernel) ?_ | with_reducible refine wg_tup (by simp; done) ?_ | with_reducible refine wg_lst (by simp; done) ?_ | with_reducible refine w_dieSet (by decide) ?_ | with_reducible refine w_dieAt (by decide) (fun _ => ?_) | refine ⟨_, rfl, ?_⟩ | refine ⟨rfl, ?_⟩))
      rfl
  obtain ⟨v, hc⟩ := hc
  refine hc.imp (fun d hd => ?_) fun _ _ x => x
  subst hd
  refine wl_asg ?_
  (repeat (first | with_reducible refine w_c2 ?_ | with_reducible refine w_c1 ?_ | with_reducible refine w_cA ?_ | with_reducible refine w_cons ?_ | with_reducible refine w_nil ?_ | with_reducible refine w_c ?_ | with_reducible refine w_call ?_ | with_reducible refine w_it ?_ | with_reducible refine w_rng1 ?_ | with_reducible refine w_rng2 ?_ | with_reducible refine w_m0 ?_ | with_reducible refine w_m1 ?_ | with_reducible refine w_sl ?_ | with_reducible refine w_part ?_ | with_reducible refine w_noP ?_ | with_reducible refine w_b ?_ | with_reducible refine w_notB ?_ | with_reducible refine w_if ?_ | with_reducible refine w_chain ?_ | with_reducible refine w_zip ?_ | with_reducible refine w_enum ?_ | with_reducible refine wg_add ?_ | with_reducible refine wg_sub ?_ | with_reducible refine wg_neg ?_ | with_reducible refine wg_lt ?_ | with_reducible refine wg_le ?_ | with_reducible refine wg_gt ?_ | with_reducible refine wg_ge ?_ | with_reducible refine wg_not ?_ | with_reducible refine wg_lenL ?_ | with_reducible refine wg_lenT ?_ | with_reducible refine wg_lenC ?_ | with_reducible refine wg_int ?_ | with_reducible refine wg_intB ?_ | with_reducible refine wg_abs ?_ | with_reducible refine wg_max2 ?_ | with_reducible refine wg_min2 ?_ | with_reducible refine wg_reprB ?_ | with_reducible refine wg_itL ?_ | with_reducible refine wg_itT ?_ | with_reducible refine wg_itC ?_ | with_reducible refine wg_itS ?_ | with_reducible refine wg_slL ?_ | with_reducible refine wg_slT ?_ | with_reducible refine wg_tupleL ?_ | with_reducible refine wg_tupleT ?_ | with_reducible refine wg_listL ?_ | with_reducible refine wg_listT ?_ | with_reducible refine wg_revL ?_ | with_reducible refine wg_revT ?_ | with_reducible refine wg_zipT ?_ | with_reducible refine wg_allM ?_ | with_reducible refine wg_anyM ?_ | with_reducible refine w_var (by with_unfolding_all rfl) ?_ | with_reducible refine wg_mul (Or.inr (by decide)) ?_ | with_reducible refine wg_mul (Or.inl (by decide)) ?_ | with_reducible refine wg_mod (by decide +kernel) ?_ | with_reducible refine wg_fdiv (by decide) ?_ | with_reducible refine wg_pow (by decide +kernel) ?_ | with_reducible refine wg_tup (by simp; done) ?_ | with_reducible refine wg_lst (by simp; done) ?_ | with_reducible refine w_dieSet (by decide) ?_ | with_reducible refine w_dieAt (by decide) (fun _ => ?_) | refine ⟨_, rfl, ?_⟩ | refine ⟨rfl, ?_⟩))
  refine wl_asg ?_
  (repeat (first | with_reducible refine w_c2 ?_ | with_reducible refine w_c1 ?_ | with_reducible refine w_cA ?_ | with_reducible refine w_cons ?_ | with_reducible refine w_nil ?_ | with_reducible refine w_c ?_ | with_reducible refine w_call ?_ | with_reducible refine w_it ?_ | with_reducible refine w_rng1 ?_ | with_reducible refine w_rng2 ?_ | with_reducible refine w_m0 ?_ | with_reducible refine w_m1 ?_ | with_reducible refine w_sl ?_ | with_reducible refine w_part ?_ | with_reducible refine w_noP ?_ | with_reducible refine w_b ?_ | with_reducible refine w_notB ?_ | with_reducible refine w_if ?_ | with_reducible refine w_chain ?_ | with_reducible refine w_zip ?_ | with_reducible refine w_enum ?_ | with_reducible refine wg_add ?_ | with_reducible refine wg_sub ?_ | with_reducible refine wg_neg ?_ | with_reducible refine wg_lt ?_ | with_reducible refine wg_le ?_ | with_reducible refine wg_gt ?_ | with_reducible refine wg_ge ?_ | with_reducible refine wg_not ?_ | with_reducible refine wg_lenL ?_ | with_reducible refine wg_lenT ?_ | with_reducible refine wg_lenC ?_ | with_reducible refine wg_int ?_ | with_reducible refine wg_intB ?_ | with_reducible refine wg_abs ?_ | with_reducible refine wg_max2 ?_ | with_reducible refine wg_min2 ?_ | with_reducible refine wg_reprB ?_ | with_reducible refine wg_itL ?_ | with_reducible refine wg_itT ?_ | with_reducible refine wg_itC ?_ | with_reducible refine wg_itS ?_ | with_reducible refine wg_slL ?_ | with_reducible refine wg_slT ?_ | with_reducible refine wg_tupleL ?_ | with_reducible refine wg_tupleT ?_ | with_reducible refine wg_listL ?_ | with_reducible refine wg_listT ?_ | with_reducible refine wg_revL ?_ | with_reducible refine wg_revT ?_ | with_reducible refine wg_zipT ?_ | with_reducible refine wg_allM ?_ | with_reducible refine wg_anyM ?_ | with_reducible refine w_var (by with_unfolding_all rfl) ?_ | with_reducible refine wg_mul (Or.inr (by decide)) ?_ | with_reducible refine wg_mul (Or.inl (by decide)) ?_ | with_reducible refine wg_mod (by decide +kernel) ?_ | with_reducible refine wg_fdiv (by decide) ?_ | with_reducible refine wg_pow (by decide +kernel) ?_ | with_reducible refine wg_tup (by simp; done) ?_ | with_reducible refine wg_lst (by simp; done) ?_ | with_reducible refine w_dieSet (by decide) ?_ | with_reducible refine w_dieAt (by decide) (fun _ => ?_) | refine ⟨_, rfl, ?_⟩ | refine ⟨rfl, ?_⟩))
  refine wl_ret ?_
  (repeat (first | with_reducible refine w_c2 ?_ | with_reducible refine w_c1 ?_ | with_reducible refine w_cA ?_ | with_reducible refine w_cons ?_ | with_reducible refine w_nil ?_ | with_reducible refine w_c ?_ | with_reducible refine w_call ?_ | with_reducible refine w_it ?_ | with_reducible refine w_rng1 ?_ | with_reducible refine w_rng2 ?_ | with_reducible refine w_m0 ?_ | with_reducible refine w_m1 ?_ | with_reducible refine w_sl ?_ | with_reducible refine w_part ?_ | with_reducible refine w_noP ?_ | with_reducible refine w_b ?_ | with_reducible refine w_notB ?_ | with_reducible refine w_if ?_ | with_reducible refine w_chain ?_ | with_reducible refine w_zip ?_ | with_reducible refine w_enum ?_ | with_reducible refine wg_add ?_ | with_reducible refine wg_sub ?_ | with_reducible refine wg_neg ?_ | with_reducible refine wg_lt ?_ | with_reducible refine wg_le ?_ | with_reducible refine wg_gt ?_ | with_reducible refine wg_ge ?_ | with_reducible refine wg_not ?_ | with_reducible refine wg_lenL ?_ | with_reducible refine wg_lenT ?_ | with_reducible refine wg_lenC ?_ | with_reducible refine wg_int ?_ | with_reducible refine wg_intB ?_ | with_reducible refine wg_abs ?_ | with_reducible refine wg_max2 ?_ | with_reducible refine wg_min2 ?_ | with_reducible refine wg_reprB ?_ | with_reducible refine wg_itL ?_ | with_reducible refine wg_itT ?_ | with_reducible refine wg_itC ?_ | with_reducible refine wg_itS ?_ | with_reducible refine wg_slL ?_ | with_reducible refine wg_slT ?_ | with_reducible refine wg_tupleL ?_ | with_reducible refine wg_tupleT ?_ | with_reducible refine wg_listL ?_ | with_reducible refine wg_listT ?_ | with_reducible refine wg_revL ?_ | with_reducible refine wg_revT ?_ | with_reducible refine wg_zipT ?_ | with_reducible refine wg_allM ?_ | with_reducible refine wg_anyM ?_ | with_reducible refine w_var (by with_unfolding_all rfl) ?_ | with_reducible refine wg_mul (Or.inr (by decide)) ?_ | with_reducible refine wg_mul (Or.inl (by decide)) ?_ | with_reducible refine wg_mod (by decide +kernel) ?_ | with_reducible refine wg_fdiv (by decide) ?_ | with_reducible refine wg_pow (by decide +kernel) ?_ | with_reducible refine wg_tup (by simp; done) ?_ | with_reducible refine wg_lst (by simp; done) ?_ | with_reducible refine w_dieSet (by decide) ?_ | with_reducible refine w_dieAt (by decide) (fun _ => ?_) | refine ⟨_, rfl, ?_⟩ | refine ⟨rfl, ?_⟩))
  exact ⟨_, _, _, rfl⟩
theorem w_cast {n : Nat} {t : Int} {X : XP} (h0 : 0 < t) (h1 : t < 1073741824) : Wp (IsDie n) (F_law_cast [.mut n, .int t]) (fun d => ∃ r, d = .int r ∧ 0 ≤ r ∧ r < t) X := by
  refine w_def rfl ?_
  unfold b_law_cast
  (repeat (first | with_reducible refine ws_seq ?_ | with_reducible refine ws_asg ?_ | with_reducible refine ws_ret ?_ | with_reducible refine ws_if ?_ | with_reducible refine ws_next ?_ | with_reducible refine ws_retN ?_ | with_reducible refine ws_brk ?_ | with_reducible refine ws_cont ?_ | with_reducible refine ws_drop ?_ | with_reducible refine ws_setI ?_ | with_reducible refine ws_for ?_ | with_reducible refine ws_par ?_ | with_reducible refine ws_frz ?_ | with_reducible refine ws_parO ?_ | with_reducible refine ws_setOwn ?_ | with_reducible refine ⟨fun _ => ?_, fun z => absurd rfl z⟩ | refine And.intro rt_nx fun _ => ?_ | refine And.intro bk_nx fun _ => ?_ | refine And.intro ct_nx fun _ => ?_ | with_reducible refine w_c2 ?_ | with_reducible refine w_c1 ?_ | with_reducible refine w_cA ?_ | with_reducible refine w_cons ?_ | with_reducible refine w_nil ?_ | with_reducible refine w_c ?_ | with_reducible refine w_call ?_ | with_reducible refine w_it ?_ | with_reducible refine w_rng1 ?_ | with_reducible refine w_rng2 ?_ | with_reducible refine w_m0 ?_ | with_reducible refine w_m1 ?_ | with_reducible refine w_sl ?_ | with_reducible refine w_part ?_ | with_reducible refine w_noP ?_ | with_reducible refine w_b ?_ | with_reducible refine w_notB ?_ | with_reducible refine w_if ?_ | with_reducible refine w_chain ?_ | with_reducible refine w_zip ?_ | with_reducible refine w_enum ?_ | with_reducible refine wg_add ?_ | with_reducible refine wg_sub ?_ | with_reducible refine wg_neg ?_ | with_reducible refine wg_lt ?_ | with_reducible refine wg_le ?_ | with_reducible refine wg_gt ?_ | with_reducible refine wg_ge ?_ | with_reducible refine wg_not ?_ | with_reducible refine wg_lenL ?_ | with_reducible refine wg_lenT ?_ | with_reducible refine wg_lenC ?_ | with_reducible refine wg_int ?_ | with_reducible refine wg_intB ?_ | with_reducible refine wg_abs ?_ | with_reducible refine wg_max2 ?_ | with_reducible refine wg_min2 ?_ | with_reducible refine wg_reprB ?_ | with_reducible refine wg_itL ?_ | with_reducible refine wg_itT ?_ | with_reducible refine wg_itC ?_ | with_reducible refine wg_itS ?_ | with_reducible refine wg_slL ?_ | with_reducible refine wg_slT ?_ | with_reducible refine wg_tupleL ?_ | with_reducible refine wg_tupleT ?_ | with_reducible refine wg_listL ?_ | with_reducible refine wg_listT ?_ | with_reducible refine wg_revL ?_ | with_reducible refine wg_revT ?_ | with_reducible refine wg_zipT ?_ | with_reducible refine wg_allM ?_ | with_reducible refine wg_anyM ?_ | with_reducible refine w_var (by with_unfolding_all rfl) ?_ | with_reducible refine wg_mul (Or.inr (by decide)) ?_ | with_reducible refine wg_mul (Or.inl (by decide)) ?_ | with_reducible refine wg_mod (by decide +kernel) ?_ | with_reducible refine wg_fdiv (by decide) ?_ | with_reducible refine wg_pow (by decide +kernel) ?_ | with_reducible refine wg_tup (by simp; done) ?_ | with_reducible refine wg_lst (by simp; done) ?_ | with_reducible refine w_dieSet (by decide) ?_ | with_reducible refine w_dieAt (by decide) (fun _ => ?_) | refine ⟨_, rfl, ?_⟩ | refine ⟨rfl, ?_⟩))
  refine ⟨fun _ => ?_, fun _ => ?_⟩
  · (repeat (first | with_reducible refine ws_seq ?_ | with_reducible refine ws_asg ?_ | with_reducible refine ws_ret ?_ | with_reducible refine ws_if ?_ | with_reducible refine ws_next ?_ | with_reducible refine ws_retN ?_ | with_reducible refine ws_brk ?_ | with_reducible refine ws_cont ?_ | with_reducible refine ws_drop ?_ | with_reducible refine ws_setI ?_ | with_reducible refine ws_for ?_ | with_reducible refine ws_par ?_ | with_reducible refine ws_frz ?_ | with_reducible refine ws_parO ?_ | with_reducible refine ws_setOwn ?_ | with_reducible refine ⟨fun _ => ?_, fun z => absurd rfl z⟩ | refine And.intro rt_nx fun _ => ?_ | refine And.intro bk_nx fun _ => ?_ | refine And.intro ct_nx fun _ => ?_ | with_reducible refine w_c2 ?_ | with_reducible refine w_c1 ?_ | with_reducible refine w_cA ?_ | with_reducible refine w_cons ?_ | with_reducible refine w_nil ?_ | with_reducible refine w_c ?_ | with_reducible refine w_call ?_ | with_reducible refine w_it ?_ | with_reducible refine w_rng1 ?_ | with_reducible refine w_rng2 ?_ | with_reducible refine w_m0 ?_ | with_reducible refine w_m1 ?_ | with_reducible refine w_sl ?_ | with_reducible refine w_part ?_ | with_reducible refine w_noP ?_ | with_reducible refine w_b ?_ | with_reducible refine w_notB ?_ | with_reducible refine w_if ?_ | with_reducible refine w_chain ?_ | with_reducible refine w_zip ?_ | with_reducible refine w_enum ?_ | with_reducible refine wg_add ?_ | with_reducible refine wg_sub ?_ | with_reducible refine wg_neg ?_ | with_reducible refine wg_lt ?_ | with_reducible refine wg_le ?_ | with_reducible refine wg_gt ?_ | with_reducible refine wg_ge ?_ | with_reducible refine wg_not ?_ | with_reducible refine wg_lenL ?_ | with_reducible refine wg_lenT ?_ | with_reducible refine wg_lenC ?_ | with_reducible refine wg_int ?_ | with_reducible refine wg_intB ?_ | with_reducible refine wg_abs ?_ | with_reducible refine wg_max2 ?_ | with_reducible refine wg_min2 ?_ | with_reducible refine wg_reprB ?_ | with_reducible refine wg_itL ?_ | with_reducible refine wg_itT ?_ | with_reducible refine wg_itC ?_ | with_reducible refine wg_itS ?_ | with_reducible refine wg_slL ?_ | with_reducible refine wg_slT ?_ | with_reducible refine wg_tupleL ?_ | with_reducible refine wg_tupleT ?_ | with_reducible refine wg_listL ?_ | with_reducible refine wg_listT ?_ | with_reducible refine wg_revL ?_ | with_reducible refine wg_revT ?_ | with_reducible refine wg_zipT ?_ | with_reducible refine wg_allM ?_ | with_reducible refine wg_anyM ?_ | with_reducible refine w_var (by with_unfolding_all rfl) ?_ | with_reducible refine wg_mul (Or.inr (by decide)) ?_ | with_reducible refine wg_mul (Or.inl (by decide)) ?_ | with_reducible refine wg_mod (by decide +kernel) ?_ | with_reducible refine wg_fdiv (by decide) ?_ | with_reducible refine wg_pow (by decide +kernel) ?_ | with_reducible refine wg_tup (by simp; done) ?_ | with_reducible refine wg_lst (by simp; done) ?_ | with_reducible refine w_dieSet (by decide) ?_ | with_reducible refine w_dieAt (by decide) (fun _ => ?_) | refine ⟨_, rfl, ?_⟩ | refine ⟨rfl, ?_⟩))
    refine wg_mod h0 ?_
    (repeat (first | with_reducible refine ws_seq ?_ | with_reducible refine ws_asg ?_ | with_reducible refine ws_ret ?_ | with_reducible refine ws_if ?_ | with_reducible refine ws_next ?_ | with_reducible refine ws_retN ?_ | with_reducible refine ws_brk ?_ | with_reducible refine ws_cont ?_ | with_reducible refine ws_drop ?_ | with_reducible refine ws_setI ?_ | with_reducible refine ws_for ?_ | with_reducible refine ws_par ?_ | with_reducible refine ws_frz ?_ | with_reducible refine ws_parO ?_ | with_reducible refine ws_setOwn ?_ | with_reducible refine ⟨fun _ => ?_, fun z => absurd rfl z⟩ | refine And.intro rt_nx fun _ => ?_ | refine And.intro bk_nx fun _ => ?_ | refine And.intro ct_nx fun _ => ?_ | with_reducible refine w_c2 ?_ | with_reducible refine w_c1 ?_ | with_reducible refine w_cA ?_ | with_reducible refine w_cons ?_ | with_reducible refine w_nil ?_ | with_reducible refine w_c ?_ | with_reducible refine w_call ?_ | with_reducible refine w_it ?_ | with_reducible refine w_rng1 ?_ | with_reducible refine w_rng2 ?_ | with_reducible refine w_m0 ?_ | with_reducible refine w_m1 ?_ | with_reducible refine w_sl ?_ | with_reducible refine w_part ?_ | with_reducible refine w_noP ?_ | with_reducible refine w_b ?_ | with_reducible refine w_notB ?_ | with_reducible refine w_if ?_ | with_reducible refine w_chain ?_ | with_reducible refine w_zip ?_ | with_reducible refine w_enum ?_ | with_reducible refine wg_add ?_ | with_reducible refine wg_sub ?_ | with_reducible refine wg_neg ?_ | with_reducible refine wg_lt ?_ | with_reducible refine wg_le ?_ | with_reducible refine wg_gt ?_ | with_reducible refine wg_ge ?_ | with_reducible refine wg_not ?_ | with_reducible refine wg_lenL ?_ | with_reducible refine wg_lenT ?_ | with_reducible refine wg_lenC ?_ | with_reducible refine wg_int ?_ | with_reducible refine wg_intB ?_ | with_reducible refine wg_abs ?_ | with_reducible refine wg_max2 ?_ | with_reducible refine wg_min2 ?_ | with_reducible refine wg_reprB ?_ | with_reducible refine wg_itL ?_ | with_reducible refine wg_itT ?_ | with_reducible refine wg_itC ?_ | with_reducible refine wg_itS ?_ | with_reducible refine wg_slL ?_ | with_reducible refine wg_slT ?_ | with_reducible refine wg_tupleL ?_ | with_reducible refine wg_tupleT ?_ | with_reducible refine wg_listL ?_ | with_reducible refine wg_listT ?_ | with_reducible refine wg_revL ?_ | with_reducible refine wg_revT ?_ | with_reducible refine wg_zipT ?_ | with_reducible refine wg_allM ?_ | with_reducible refine wg_anyM ?_ | with_reducible refine w_var (by with_unfolding_all rfl) ?_ | with_reducible refine wg_mul (Or.inr (by decide)) ?_ | with_reducible refine wg_mul (Or.inl (by decide)) ?_ | with_reducible refine wg_mod (by decide +kernel) ?_ | with_reducible refine wg_fdiv (by decide) ?_ | with_reducible refine wg_pow (by decide +kernel) ?_ | with_reducible refine wg_tup (by simp; done) ?_ | with_reducible refine wg_lst (by simp; done) ?_ | with_reducible refine w_dieSet (by decide) ?_ | with_reducible refine w_dieAt (by decide) (fun _ => ?_) | refine ⟨_, rfl, ?_⟩ | refine ⟨rfl, ?_⟩))
    refine wg_fdiv ⟨h0, h1⟩ ?_
    (repeat (first | with_reducible refine ws_seq ?_ | with_reducible refine ws_asg ?_ | with_reducible refine ws_ret ?_ | with_reducible refine ws_if ?_ | with_reducible refine ws_next ?_ | with_reducible refine ws_retN ?_ | with_reducible refine ws_brk ?_ | with_reducible refine ws_cont ?_ | with_reducible refine ws_drop ?_ | with_reducible refine ws_setI ?_ | with_reducible refine ws_for ?_ | with_reducible refine ws_par ?_ | with_reducible refine ws_frz ?_ | with_reducible refine ws_parO ?_ | with_reducible refine ws_setOwn ?_ | with_reducible refine ⟨fun _ => ?_, fun z => absurd rfl z⟩ | refine And.intro rt_nx fun _ => ?_ | refine And.intro bk_nx fun _ => ?_ | refine And.intro ct_nx fun _ => ?_ | with_reducible refine w_c2 ?_ | with_reducible refine w_c1 ?_ | with_reducible refine w_cA ?_ | with_reducible refine w_cons ?_ | with_reducible refine w_nil ?_ | with_reducible refine w_c ?_ | with_reducible refine w_call ?_ | with_reducible refine w_it ?_ | with_reducible refine w_rng1 ?_ | with_reducible refine w_rng2 ?_ | with_reducible refine w_m0 ?_ | with_reducible refine w_m1 ?_ | with_reducible refine w_sl ?_ | with_reducible refine w_part ?_ | with_reducible refine w_noP ?_ | with_reducible refine w_b ?_ | with_reducible refine w_notB ?_ | with_reducible refine w_if ?_ | with_reducible refine w_chain ?_ | with_reducible refine w_zip ?_ | with_reducible refine w_enum ?_ | with_reducible refine wg_add ?_ | with_reducible refine wg_sub ?_ | with_reducible refine wg_neg ?_ | with_reducible refine wg_lt ?_ | with_reducible refine wg_le ?_ | with_reducible refine wg_gt ?_ | with_reducible refine wg_ge ?_ | with_reducible refine wg_not ?_ | with_reducible refine wg_lenL ?_ | with_reducible refine wg_lenT ?_ | with_reducible refine wg_lenC ?_ | with_reducible refine wg_int ?_ | with_reducible refine wg_intB ?_ | with_reducible refine wg_abs ?_ | with_reducible refine wg_max2 ?_ | with_reducible refine wg_min2 ?_ | with_reducible refine wg_reprB ?_ | with_reducible refine wg_itL ?_ | with_reducible refine wg_itT ?_ | with_reducible refine wg_itC ?_ | with_reducible refine wg_itS ?_ | with_reducible refine wg_slL ?_ | with_reducible refine wg_slT ?_ | with_reducible refine wg_tupleL ?_ | with_reducible refine wg_tupleT ?_ | with_reducible refine wg_listL ?_ | with_reducible refine wg_listT ?_ | with_reducible refine wg_revL ?_ | with_reducible refine wg_revT ?_ | with_reducible refine wg_zipT ?_ | with_reducible refine wg_allM ?_ | with_reducible refine wg_anyM ?_ | with_reducible refine w_var (by with_unfolding_all rfl) ?_ | with_reducible refine wg_mul (Or.inr (by decide)) ?_ | with_reducible refine wg_mul (Or.inl (by decide)) ?_ | with_reducible refine wg_mod (by decide +kernel) ?_ | with_reducible refine wg_fdiv (by decide) ?_ | with_reducible refine wg_pow (by decide +kernel) ?_ | with_reducible refine wg_tup (by simp; done) ?_ | with_reducible refine wg_lst (by simp; done) ?_ | with_reducible refine w_dieSet (by decide) ?_ | with_reducible refine w_dieAt (by decide) (fun _ => ?_) | refine ⟨_, rfl, ?_⟩ | refine ⟨rfl, ?_⟩))
    exact ⟨Int.emod_nonneg _ (by omega), Int.emod_lt_of_pos _ h0⟩
  · (repeat (first | with_reducible refine ws_seq ?_ | with_reducible refine ws_asg ?_ | with_reducible refine ws_ret ?_ | with_reducible refine ws_if ?_ | with_reducible refine ws_next ?_ | with_reducible refine ws_retN ?_ | with_reducible refine ws_brk ?_ | with_reducible refine ws_cont ?_ | with_reducible refine ws_drop ?_ | with_reducible refine ws_setI ?_ | with_reducible refine ws_for ?_ | with_reducible refine ws_par ?_ | with_reducible refine ws_frz ?_ | with_reducible refine ws_parO ?_ | with_reducible refine ws_setOwn ?_ | with_reducible refine ⟨fun _ => ?_, fun z => absurd rfl z⟩ | refine And.intro rt_nx fun _ => ?_ | refine And.intro bk_nx fun _ => ?_ | refine And.intro ct_nx fun _ => ?_ | with_reducible refine w_c2 ?_ | with_reducible refine w_c1 ?_ | with_reducible refine w_cA ?_ | with_reducible refine w_cons ?_ | with_reducible refine w_nil ?_ | with_reducible refine w_c ?_ | with_reducible refine w_call ?_ | with_reducible refine w_it ?_ | with_reducible refine w_rng1 ?_ | with_reducible refine w_rng2 ?_ | with_reducible refine w_m0 ?_ | with_reducible refine w_m1 ?_ | with_reducible refine w_sl ?_ | with_reducible refine w_part ?_ | with_reducible refine w_noP ?_ | with_reducible refine w_b ?_ | with_reducible refine w_notB ?_ | with_reducible refine w_if ?_ | with_reducible refine w_chain ?_ | with_reducible refine w_zip ?_ | with_reducible refine w_enum ?_ | with_reducible refine wg_add ?_ | with_reducible refine wg_sub ?_ | with_reducible refine wg_neg ?_ | with_reducible refine wg_lt ?_ | with_reducible refine wg_le ?_ | with_reducible refine wg_gt ?_ | with_reducible refine wg_ge ?_ | with_reducible refine wg_not ?_ | with_reducible refine wg_lenL ?_ | with_reducible refine wg_lenT ?_ | with_reducible refine wg_lenC ?_ | with_reducible refine wg_int ?_ | with_reducible refine wg_intB ?_ | with_reducible refine wg_abs ?_ | with_reducible refine wg_max2 ?_ | with_reducible refine wg_min2 ?_ | with_reducible refine wg_reprB ?_ | with_reducible refine wg_itL ?_ | with_reducible refine wg_itT ?_ | with_reducible refine wg_itC ?_ | with_reducible refine wg_itS ?_ | with_reducible refine wg_slL ?_ | with_reducible refine wg_slT ?_ | with_reducible refine wg_tupleL ?_ | with_reducible refine wg_tupleT ?_ | with_reducible refine wg_listL ?_ | with_reducible refine wg_listT ?_ | with_reducible refine wg_revL ?_ | with_reducible refine wg_revT ?_ | with_reducible refine wg_zipT ?_ | with_reducible refine wg_allM ?_ | with_reducible refine wg_anyM ?_ | with_reducible refine w_var (by with_unfolding_all rfl) ?_ | with_reducible refine wg_mul (Or.inr (by decide)) ?_ | with_reducible refine wg_mul (Or.inl (by decide)) ?_ | with_reducible refine wg_mod (by decide +kernel) ?_ | with_reducible refine wg_fdiv (by decide) ?_ | with_reducible refine wg_pow (by decide +kernel) ?_ | with_reducible refine wg_tup (by simp; done) ?_ | with_reducible refine wg_lst (by simp; done) ?_ | with_reducible refine w_dieSet (by decide) ?_ | with_reducible refine w_dieAt (by decide) (fun _ => ?_) | refine ⟨_, rfl, ?_⟩ | refine ⟨rfl, ?_⟩))
    refine wg_mul (Or.inl ⟨by omega, by omega⟩) ?_
    (repeat (first | with_reducible refine ws_seq ?_ | with_reducible refine ws_asg ?_ | with_reducible refine ws_ret ?_ | with_reducible refine ws_if ?_ | with_reducible refine ws_next ?_ | with_reducible refine ws_retN ?_ | with_reducible refine ws_brk ?_ | with_reducible refine ws_cont ?_ | with_reducible refine ws_drop ?_ | with_reducible refine ws_setI ?_ | with_reducible refine ws_for ?_ | with_reducible refine ws_par ?_ | with_reducible refine ws_frz ?_ | with_reducible refine ws_parO ?_ | with_reducible refine ws_setOwn ?_ | with_reducible refine ⟨fun _ => ?_, fun z => absurd rfl z⟩ | refine And.intro rt_nx fun _ => ?_ | refine And.intro bk_nx fun _ => ?_ | refine And.intro ct_nx fun _ => ?_ | with_reducible refine w_c2 ?_ | with_reducible refine w_c1 ?_ | with_reducible refine w_cA ?_ | with_reducible refine w_cons ?_ | with_reducible refine w_nil ?_ | with_reducible refine w_c ?_ | with_reducible refine w_call ?_ | with_reducible refine w_it ?_ | with_reducible refine w_rng1 ?_ | with_reducible refine w_rng2 ?_ | with_reducible refine w_m0 ?_ | with_reducible refine w_m1 ?_ | with_reducible refine w_sl ?_ | with_reducible refine w_part ?_ | with_reducible refine w_noP ?_ | with_reducible refine w_b ?_ | with_reducible refine w_notB ?_ | with_reducible refine w_if ?_ | with_reducible refine w_chain ?_ | with_reducible refine w_zip ?_ | with_reducible refine w_enum ?_ | with_reducible refine wg_add ?_ | with_reducible refine wg_sub ?_ | with_reducible refine wg_neg ?_ | with_reducible refine wg_lt ?_ | with_reducible refine wg_le ?_ | with_reducible refine wg_gt ?_ | with_reducible refine wg_ge ?_ | with_reducible refine wg_not ?_ | with_reducible refine wg_lenL ?_ | with_reducible refine wg_lenT ?_ | with_reducible refine wg_lenC ?_ | with_reducible refine wg_int ?_ | with_reducible refine wg_intB ?_ | with_reducible refine wg_abs ?_ | with_reducible refine wg_max2 ?_ | with_reducible refine wg_min2 ?_ | with_reducible refine wg_reprB ?_ | with_reducible refine wg_itL ?_ | with_reducible refine wg_itT ?_ | with_reducible refine wg_itC ?_ | with_reducible refine wg_itS ?_ | with_reducible refine wg_slL ?_ | with_reducible refine wg_slT ?_ | with_reducible refine wg_tupleL ?_ | with_reducible refine wg_tupleT ?_ | with_reducible refine wg_listL ?_ | with_reducible refine wg_listT ?_ | with_reducible refine wg_revL ?_ | with_reducible refine wg_revT ?_ | with_reducible refine wg_zipT ?_ | with_reducible refine wg_allM ?_ | with_reducible refine wg_anyM ?_ | with_reducible refine w_var (by with_unfolding_all rfl) ?_ | with_reducible refine wg_mul (Or.inr (by decide)) ?_ | with_reducible refine wg_mul (Or.inl (by decide)) ?_ | with_reducible refine wg_mod (by decide +kernel) ?_ | with_reducible refine wg_fdiv (by decide) ?_ | with_reducible refine wg_pow (by decide +kernel) ?_ | with_reducible refine wg_tup (by simp; done) ?_ | with_reducible refine wg_lst (by simp; done) ?_ | with_reducible refine w_dieSet (by decide) ?_ | with_reducible refine w_dieAt (by decide) (fun _ => ?_) | refine ⟨_, rfl, ?_⟩ | refine ⟨rfl, ?_⟩))
    refine wg_mul (Or.inl ⟨by omega, by omega⟩) ?_
    (repeat (first | with_reducible refine ws_seq ?_ | with_reducible refine ws_asg ?_ | with_reducible refine ws_ret ?_ | with_reducible refine ws_if ?_ | with_reducible refine ws_next ?_ | with_reducible refine ws_retN ?_ | with_reducible refine ws_brk ?_ | with_reducible refine ws_cont ?_ | with_reducible refine ws_drop ?_ | with_reducible refine ws_setI ?_ | with_reducible refine ws_for ?_ | with_reducible refine ws_par ?_ | with_reducible refine ws_frz ?_ | with_reducible refine ws_parO ?_ | with_reducible refine ws_setOwn ?_ | with_reducible refine ⟨fun _ => ?_, fun z => absurd rfl z⟩ | refine And.intro rt_nx fun _ => ?_ | refine And.intro bk_nx fun _ => ?_ | refine And.intro ct_nx fun _ => ?_ | with_reducible refine w_c2 ?_ | with_reducible refine w_c1 ?_ | with_reducible refine w_cA ?_ | with_reducible refine w_cons ?_ | with_reducible refine w_nil ?_ | with_reducible refine w_c ?_ | with_reducible refine w_call ?_ | with_reducible refine w_it ?_ | with_reducible refine w_rng1 ?_ | with_reducible refine w_rng2 ?_ | with_reducible refine w_m0 ?_ | with_reducible refine w_m1 ?_ | with_reducible refine w_sl ?_ | with_reducible refine w_part ?_ | with_reducible refine w_noP ?_ | with_reducible refine w_b ?_ | with_reducible refine w_notB ?_ | with_reducible refine w_if ?_ | with_reducible refine w_chain ?_ | with_reducible refine w_zip ?_ | with_reducible refine w_enum ?_ | with_reducible refine wg_add ?_ | with_reducible refine wg_sub ?_ | with_reducible refine wg_neg ?_ | with_reducible refine wg_lt ?_ | with_reducible refine wg_le ?_ | with_reducible refine wg_gt ?_ | with_reducible refine wg_ge ?_ | with_reducible refine wg_not ?_ | with_reducible refine wg_lenL ?_ | with_reducible refine wg_lenT ?_ | with_reducible refine wg_lenC ?_ | with_reducible refine wg_int ?_ | with_reducible refine wg_intB ?_ | with_reducible refine wg_abs ?_ | with_reducible refine wg_max2 ?_ | with_reducible refine wg_min2 ?_ | with_reducible refine wg_reprB ?_ | with_reducible refine wg_itL ?_ | with_reducible refine wg_itT ?_ | with_reducible refine wg_itC ?_ | with_reducible refine wg_itS ?_ | with_reducible refine wg_slL ?_ | with_reducible refine wg_slT ?_ | with_reducible refine wg_tupleL ?_ | with_reducible refine wg_tupleT ?_ | with_reducible refine wg_listL ?_ | with_reducible refine wg_listT ?_ | with_reducible refine wg_revL ?_ | with_reducible refine wg_revT ?_ | with_reducible refine wg_zipT ?_ | with_reducible refine wg_allM ?_ | with_reducible refine wg_anyM ?_ | with_reducible refine w_var (by with_unfolding_all rfl) ?_ | with_reducible refine wg_mul (Or.inr (by decide)) ?_ | with_reducible refine wg_mul (Or.inl (by decide)) ?_ | with_reducible refine wg_mod (by decide +kernel) ?_ | with_reducible refine wg_fdiv (by decide) ?_ | with_reducible refine wg_pow (by decide +kernel) ?_ | with_reducible refine wg_tup (by simp; done) ?_ | with_reducible refine wg_lst (by simp; done) ?_ | with_reducible refine w_dieSet (by decide) ?_ | with_reducible refine w_dieAt (by decide) (fun _ => ?_) | refine ⟨_, rfl, ?_⟩ | refine ⟨rfl, ?_⟩))
    refine wg_mod h0 ?_
    exact ⟨_, rfl, Int.emod_nonneg _ (by omega), Int.emod_lt_of_pos _ h0⟩
theorem w_pickL {n : Nat} {xs : List D} {X : XP} (h0 : 0 < xs.length) (h1 : xs.length < 1073741824) : Wp (IsDie n) (F_law_pick [.mut n, .lst xs]) (fun d => d ∈ xs) X := by
  refine w_def rfl ?_
  unfold b_law_pick
  (repeat (first | with_reducible refine ws_seq ?_ | with_reducible refine ws_asg ?_ | with_reducible refine ws_ret ?_ | with_reducible refine ws_if ?_ | with_reducible refine ws_next ?_ | with_reducible refine ws_retN ?_ | with_reducible refine ws_brk ?_ | with_reducible refine ws_cont ?_ | with_reducible refine ws_drop ?_ | with_reducible refine ws_setI ?_ | with_reducible refine ws_for ?_ | with_reducible refine ws_par ?_ | with_reducible refine ws_frz ?_ | with_reducible refine ws_parO ?_ | with_reducible refine ws_setOwn ?_ | with_reducible refine ⟨fun _ => ?_, fun z => absurd rfl z⟩ | refine And.intro rt_nx fun _ => ?_ | refine And.intro bk_nx fun _ => ?_ | refine And.intro ct_nx fun _ => ?_ | with_reducible refine w_c2 ?_ | with_reducible refine w_c1 ?_ | with_reducible refine w_cA ?_ | with_reducible refine w_cons ?_ | with_reducible refine w_nil ?_ | with_reducible refine w_c ?_ | with_reducible refine w_call ?_ | with_reducible refine w_it ?_ | with_reducible refine w_rng1 ?_ | with_reducible refine w_rng2 ?_ | with_reducible refine w_m0 ?_ | with_reducible refine w_m1 ?_ | with_reducible refine w_sl ?_ | with_reducible refine w_part ?_ | with_reducible refine w_noP ?_ | with_reducible refine w_b ?_ | with_reducible refine w_notB ?_ | with_reducible refine w_if ?_ | with_reducible refine w_chain ?_ | with_reducible refine w_zip ?_ | with_reducible refine w_enum ?_ | with_reducible refine wg_add ?_ | with_reducible refine wg_sub ?_ | with_reducible refine wg_neg ?_ | with_reducible refine wg_lt ?_ | with_reducible refine wg_le ?_ | with_reducible refine wg_gt ?_ | with_reducible refine wg_ge ?_ | with_reducible refine wg_not ?_ | with_reducible refine wg_lenL ?_ | with_reducible refine wg_lenT ?_ | with_reducible refine wg_lenC ?_ | with_reducible refine wg_int ?_ | with_reducible refine wg_intB ?_ | with_reducible refine wg_abs ?_ | with_reducible refine wg_max2 ?_ | with_reducible refine wg_min2 ?_ | with_reducible refine wg_reprB ?_ | with_reducible refine wg_itL ?_ | with_reducible refine wg_itT ?_ | with_reducible refine wg_itC ?_ | with_reducible refine wg_itS ?_ | with_reducible refine wg_slL ?_ | with_reducible refine wg_slT ?_ | with_reducible refine wg_tupleL ?_ | with_reducible refine wg_tupleT ?_ | with_reducible refine wg_listL ?_ | with_reducible refine wg_listT ?_ | with_reducible refine wg_revL ?_ | with_reducible refine wg_revT ?_ | with_reducible refine wg_zipT ?_ | with_reducible refine wg_allM ?_ | with_reducible refine wg_anyM ?_ | with_reducible refine w_var (by with_unfolding_all rfl) ?_ | with_reducible refine wg_mul (Or.inr (by decide)) ?_ | with_reducible refine wg_mul (Or.inl (by decide)) ?_ | with_reducible refine wg_mod (by decide +kernel) ?_ | with_reducible refine wg_fdiv (by decide) ?_ | with_reducible refine wg_pow (by decide +kernel) ?_ | with_reducible refine wg_tup (by simp; done) ?_ | with_reducible refine wg_lst (by simp; done) ?_ | with_reducible refine w_dieSet (by decide) ?_ | with_reducible refine w_dieAt (by decide) (fun _ => ?_) | refine ⟨_, rfl, ?_⟩ | refine ⟨rfl, ?_⟩))
  refine (w_cast (by omega) (by omega)).imp (fun d ⟨r, e, a, b⟩ => ?_) fun _ _ x => x
  subst e
  obtain ⟨d, e, e2⟩ := at_some (xs := xs) a (by omega)
  exact wg_ixL e (List.mem_of_getElem? e2)
theorem w_pickT {n : Nat} {xs : List D} {X : XP} (h0 : 0 < xs.length) (h1 : xs.length < 1073741824) : Wp (IsDie n) (F_law_pick [.mut n, .tup xs]) (fun d => d ∈ xs) X := by
  refine w_def rfl ?_
  unfold b_law_pick
  (repeat (first | with_reducible refine ws_seq ?_ | with_reducible refine ws_asg ?_ | with_reducible refine ws_ret ?_ | with_reducible refine ws_if ?_ | with_reducible refine ws_next ?_ | with_reducible refine ws_retN ?_ | with_reducible refine ws_brk ?_ | with_reducible refine ws_cont ?_ | with_reducible refine ws_drop ?_ | with_reducible refine ws_setI ?_ | with_reducible refine ws_for ?_ | with_reducible refine ws_par ?_ | with_reducible refine ws_frz ?_ | with_reducible refine ws_parO ?_ | with_reducible refine ws_setOwn ?_ | with_reducible refine ⟨fun _ => ?_, fun z => absurd rfl z⟩ | refine And.intro rt_nx fun _ => ?_ | refine And.intro bk_nx fun _ => ?_ | refine And.intro ct_nx fun _ => ?_ | with_reducible refine w_c2 ?_ | with_reducible refine w_c1 ?_ | with_reducible refine w_cA ?_ | with_reducible refine w_cons ?_ | with_reducible refine w_nil ?_ | with_reducible refine w_c ?_ | with_reducible refine w_call ?_ | with_reducible refine w_it ?_ | with_reducible refine w_rng1 ?_ | with_reducible refine w_rng2 ?_ | with_reducible refine w_m0 ?_ | with_reducible refine w_m1 ?_ | with_reducible refine w_sl ?_ | with_reducible refine w_part ?_ | with_reducible refine w_noP ?_ | with_reducible refine w_b ?_ | with_reducible refine w_notB ?_ | with_reducible refine w_if ?_ | with_reducible refine w_chain ?_ | with_reducible refine w_zip ?_ | with_reducible refine w_enum ?_ | with_reducible refine wg_add ?_ | with_reducible refine wg_sub ?_ | with_reducible refine wg_neg ?_ | with_reducible refine wg_lt ?_ | with_reducible refine wg_le ?_ | with_reducible refine wg_gt ?_ | with_reducible refine wg_ge ?_ | with_reducible refine wg_not ?_ | with_reducible refine wg_lenL ?_ | with_reducible refine wg_lenT ?_ | with_reducible refine wg_lenC ?_ | with_reducible refine wg_int ?_ | with_reducible refine wg_intB ?_ | with_reducible refine wg_abs ?_ | with_reducible refine wg_max2 ?_ | with_reducible refine wg_min2 ?_ | with_reducible refine wg_reprB ?_ | with_reducible refine wg_itL ?_ | with_reducible refine wg_itT ?_ | with_reducible refine wg_itC ?_ | with_reducible refine wg_itS ?_ | with_reducible refine wg_slL ?_ | with_reducible refine wg_slT ?_ | with_reducible refine wg_tupleL ?_ | with_reducible refine wg_tupleT ?_ | with_reducible refine wg_listL ?_ | with_reducible refine wg_listT ?_ | with_reducible refine wg_revL ?_ | with_reducible refine wg_revT ?_ | with_reducible refine wg_zipT ?_ | with_reducible refine wg_allM ?_ | with_reducible refine wg_anyM ?_ | with_reducible refine w_var (by with_unfolding_all rfl) ?_ | with_reducible refine wg_mul (Or.inr (by decide)) ?_ | with_reducible refine wg_mul (Or.inl (by decide)) ?_ | with_reducible refine wg_mod (by decide +kernel) ?_ | with_reducible refine wg_fdiv (by decide) ?_ | with_reducible refine wg_pow (by decide +kernel) ?_ | with_reducible refine wg_tup (by simp; done) ?_ | with_reducible refine wg_lst (by simp; done) ?_ | with_reducible refine w_dieSet (by decide) ?_ | with_reducible refine w_dieAt (by decide) (fun _ => ?_) | refine ⟨_, rfl, ?_⟩ | refine ⟨rfl, ?_⟩))
  refine (w_cast (by omega) (by omega)).imp (fun d ⟨r, e, a, b⟩ => ?_) fun _ _ x => x
  subst e
  obtain ⟨d, e, e2⟩ := at_some (xs := xs) a (by omega)
  exact wg_ixT e (List.mem_of_getElem? e2)
end K00
namespace K00
open PySem PySem.Spec PyProof.Rows L2 DN KB
def bagsOf (c : Str) : List D := match F_law_of_bags [.exn c []] [] with
  | .ok (.lst ds) _ => ds
  | _ => []
def othersOf (c : Str) : List D := match F_law_of_others [.exn c []] [] with
  | .ok (.lst ds) _ => ds
  | _ => []
abbrev plainC : List Str := ["BagError", "InvalidProgram", "InvalidBag", "InvalidMode", "InvalidRun", "InvalidWay", "InvalidPlace", "InvalidUses", "InvalidPlan", "InvalidOperation", "InvalidCommand"]
abbrev keepC : List Str := ["UnknownName", "UnknownSite", "InvalidNumber", "NothingToUndo", "Refused", "TooMany"]
theorem bags_all : ∀ c ∈ plainC ++ (("ParseError" : Str) :: keepC), ∀ (fs : List (Str × D)) (S : Store), F_law_of_bags [.exn c fs] S = .ok (.lst (bagsOf c)) S := by
  intro c hc fs S
  simp only [List.cons_append, List.nil_append, List.mem_cons, List.not_mem_nil, or_false] at hc
  rcases hc with rfl | rfl | rfl | rfl | rfl | rfl | rfl | rfl | rfl | rfl | rfl | rfl | rfl | rfl | rfl | rfl | rfl | rfl <;> kernel_rfl
theorem others_all : ∀ c ∈ plainC ++ (("ParseError" : Str) :: keepC), ∀ (fs : List (Str × D)) (S : Store), F_law_of_others [.exn c fs] S = .ok (.lst (othersOf c)) S := by
  intro c hc fs S
  simp only [List.cons_append, List.nil_append, List.mem_cons, List.not_mem_nil, or_false] at hc
  rcases hc with rfl | rfl | rfl | rfl | rfl | rfl | rfl | rfl | rfl | rfl | rfl | rfl | rfl | rfl | rfl | rfl | rfl | rfl <;> kernel_rfl
theorem bags_plain : eqD (.lst (plainC.map fun c => .lst (bagsOf c))) (.lst ([.lst [.int 0]] ++ (rngD 1 10).map fun d => .lst [.int 0, d])) = some true := by kernel_rfl
theorem others_plain : eqD (.lst (plainC.map fun c => .lst (othersOf c))) (.lst (List.replicate 11 [D.lst [.str "value"]]).flatten) = some true := by kernel_rfl
end K00
namespace K00
open PySem PySem.Spec PyProof.Rows L2 DN KB
section
variable {I : Store → Prop} {X : XP} {ρ : DN.Env} {P : D → Prop}
theorem wg_mkP {c : Str} {d : D} (h : P (.exn c [])) : Wp I (gMkP c d) P X := Wp.pure h
theorem wg_mkI {c f : Str} {d : D} (h : P (.exn c [(f, d)])) : Wp I (gMkI c f d) P X := Wp.pure h
theorem wg_fld {c f : Str} {cs : List Str} {fs : List (Str × D)} {d : D} (hc : cs.contains c = true) (e : fs.lookup f = some d) (h : P d) : Wp I (gFld f cs (.exn c fs)) P X := wg_eqm (by unfold gFld; dsimp only; rw [if_pos hc, e]) h
theorem wg_reprS {ds : List D} {p : PyData} (e : toR (.lst ds) = some p) (ok : reprOk p = true) (h : P (.str p.shown)) : Wp I (gReprS [.lst ds]) P X := wg_eqm (by unfold gReprS; dsimp only; rw [e]; dsimp only; rw [if_pos ok]) h
theorem ws_env {f : Sm} {PS : Fl → DN.Env → Prop} {ρ ρ' : DN.Env} (e : ρ = ρ') (h : Ws I (f ρ') PS X) : Ws I (f ρ) PS X := e ▸ h
theorem w_bags {c : Str} {fs : List (Str × D)} (hc : c ∈ plainC ++ (("ParseError" : Str) :: keepC)) : Wp I (F_law_of_bags [.exn c fs]) (fun r => r = .lst (bagsOf c)) X := Wp.mk fun S s => by rw [bags_all c hc fs S]; exact And.intro rfl s
theorem w_others {c : Str} {fs : List (Str × D)} (hc : c ∈ plainC ++ (("ParseError" : Str) :: keepC)) : Wp I (F_law_of_others [.exn c fs]) (fun r => r = .lst (othersOf c)) X := Wp.mk fun S s => by rw [others_all c hc fs S]; exact And.intro rfl s
theorem w_plain {d : D} : Wp I (F_law_plain_ones [d]) (fun r => r = .lst (plainC.map fun c => D.exn c [])) X := by
  refine w_def rfl ?_
  unfold b_law_plain_ones
  (repeat (first | with_reducible refine ws_seq ?_ | with_reducible refine ws_asg ?_ | with_reducible refine ws_ret ?_ | with_reducible refine ws_if ?_ | with_reducible refine ws_next ?_ | with_reducible refine ws_retN ?_ | with_reducible refine ws_brk ?_ | with_reducible refine ws_cont ?_ | with_reducible refine ws_drop ?_ | with_reducible refine ws_setI ?_ | with_reducible refine ws_for ?_ | with_reducible refine ws_par ?_ | with_reducible refine ws_frz ?_ | with_reducible refine ws_parO ?_ | with_reducible refine ws_setOwn ?_ | with_reducible refine ⟨fun _ => ?_, fun z => absurd rfl z⟩ | refine And.intro rt_nx fun _ => ?_ | refine And.intro bk_nx fun _ => ?_ | refine And.intro ct_nx fun _ => ?_ | with_reducible refine w_c2 ?_ | with_reducible refine w_c1 ?_ | with_reducible refine w_cA ?_ | with_reducible refine w_cons ?_ | with_reducible refine w_nil ?_ | with_reducible refine w_c ?_ | with_reducible refine w_call ?_ | with_reducible refine w_it ?_ | with_reducible refine w_rng1 ?_ | with_reducible refine w_rng2 ?_ | with_reducible refine w_m0 ?_ | with_reducible refine w_m1 ?_ | with_reducible refine w_sl ?_ | with_reducible refine w_part ?_ | with_reducible refine w_noP ?_ | with_reducible refine w_b ?_ | with_reducible refine w_notB ?_ | with_reducible refine w_if ?_ | with_reducible refine w_chain ?_ | with_reducible refine w_zip ?_ | with_reducible refine w_enum ?_ | with_reducible refine wg_add ?_ | with_reducible refine wg_sub ?_ | with_reducible refine wg_neg ?_ | with_reducible refine wg_lt ?_ | with_reducible refine wg_le ?_ | with_reducible refine wg_gt ?_ | with_reducible refine wg_ge ?_ | with_reducible refine wg_not ?_ | with_reducible refine wg_lenL ?_ | with_reducible refine wg_lenT ?_ | with_reducible refine wg_lenC ?_ | with_reducible refine wg_int ?_ | with_reducible refine wg_intB ?_ | with_reducible refine wg_abs ?_ | with_reducible refine wg_max2 ?_ | with_reducible refine wg_min2 ?_ | with_reducible refine wg_reprB ?_ | with_reducible refine wg_itL ?_ | with_reducible refine wg_itT ?_ | with_reducible refine wg_itC ?_ | with_reducible refine wg_itS ?_ | with_reducible refine wg_slL ?_ | with_reducible refine wg_slT ?_ | with_reducible refine wg_tupleL ?_ | with_reducible refine wg_tupleT ?_ | with_reducible refine wg_listL ?_ | with_reducible refine wg_listT ?_ | with_reducible refine wg_revL ?_ | with_reducible refine wg_revT ?_ | with_reducible refine wg_zipT ?_ | with_reducible refine wg_allM ?_ | with_reducible refine wg_anyM ?_ | with_reducible refine w_var (by with_unfolding_all rfl) ?_ | with_reducible refine wg_mul (Or.inr (by decide)) ?_ | with_reducible refine wg_mul (Or.inl (by decide)) ?_ | with_reducible refine wg_mod (by decide +kernel) ?_ | with_reducible refine wg_fdiv (by decide) ?_ | with_reducible refine wg_pow (by decide +kernel) ?_ | with_reducible refine wg_tup (by simp; done) ?_ | with_reducible refine wg_lst (by simp; done) ?_ | with_reducible refine w_dieSet (by decide) ?_ | with_reducible refine w_dieAt (by decide) (fun _ => ?_) | refine ⟨_, rfl, ?_⟩ | refine ⟨rfl, ?_⟩ | with_reducible refine wg_mkP ?_ | with_reducible refine wg_mkI ?_ | with_reducible refine wg_ixL (by rfl) ?_ | with_reducible refine wg_fld (by decide +kernel) (by rfl) ?_ | refine ⟨_, _, rfl, ?_⟩))
  refine wg_addL (by decide) ?_
  (repeat (first | with_reducible refine ws_seq ?_ | with_reducible refine ws_asg ?_ | with_reducible refine ws_ret ?_ | with_reducible refine ws_if ?_ | with_reducible refine ws_next ?_ | with_reducible refine ws_retN ?_ | with_reducible refine ws_brk ?_ | with_reducible refine ws_cont ?_ | with_reducible refine ws_drop ?_ | with_reducible refine ws_setI ?_ | with_reducible refine ws_for ?_ | with_reducible refine ws_par ?_ | with_reducible refine ws_frz ?_ | with_reducible refine ws_parO ?_ | with_reducible refine ws_setOwn ?_ | with_reducible refine ⟨fun _ => ?_, fun z => absurd rfl z⟩ | refine And.intro rt_nx fun _ => ?_ | refine And.intro bk_nx fun _ => ?_ | refine And.intro ct_nx fun _ => ?_ | with_reducible refine w_c2 ?_ | with_reducible refine w_c1 ?_ | with_reducible refine w_cA ?_ | with_reducible refine w_cons ?_ | with_reducible refine w_nil ?_ | with_reducible refine w_c ?_ | with_reducible refine w_call ?_ | with_reducible refine w_it ?_ | with_reducible refine w_rng1 ?_ | with_reducible refine w_rng2 ?_ | with_reducible refine w_m0 ?_ | with_reducible refine w_m1 ?_ | with_reducible refine w_sl ?_ | with_reducible refine w_part ?_ | with_reducible refine w_noP ?_ | with_reducible refine w_b ?_ | with_reducible refine w_notB ?_ | with_reducible refine w_if ?_ | with_reducible refine w_chain ?_ | with_reducible refine w_zip ?_ | with_reducible refine w_enum ?_ | with_reducible refine wg_add ?_ | with_reducible refine wg_sub ?_ | with_reducible refine wg_neg ?_ | with_reducible refine wg_lt ?_ | with_reducible refine wg_le ?_ | with_reducible refine wg_gt ?_ | with_reducible refine wg_ge ?_ | with_reducible refine wg_not ?_ | with_reducible refine wg_lenL ?_ | with_reducible refine wg_lenT ?_ | with_reducible refine wg_lenC ?_ | with_reducible refine wg_int ?_ | with_reducible refine wg_intB ?_ | with_reducible refine wg_abs ?_ | with_reducible refine wg_max2 ?_ | with_reducible refine wg_min2 ?_ | with_reducible refine wg_reprB ?_ | with_reducible refine wg_itL ?_ | with_reducible refine wg_itT ?_ | with_reducible refine wg_itC ?_ | with_reducible refine wg_itS ?_ | with_reducible refine wg_slL ?_ | with_reducible refine wg_slT ?_ | with_reducible refine wg_tupleL ?_ | with_reducible refine wg_tupleT ?_ | with_reducible refine wg_listL ?_ | with_reducible refine wg_listT ?_ | with_reducible refine wg_revL ?_ | with_reducible refine wg_revT ?_ | with_reducible refine wg_zipT ?_ | with_reducible refine wg_allM ?_ | with_reducible refine wg_anyM ?_ | with_reducible refine w_var (by with_unfolding_all rfl) ?_ | with_reducible refine wg_mul (Or.inr (by decide)) ?_ | with_reducible refine wg_mul (Or.inl (by decide)) ?_ | with_reducible refine wg_mod (by decide +kernel) ?_ | with_reducible refine wg_fdiv (by decide) ?_ | with_reducible refine wg_pow (by decide +kernel) ?_ | with_reducible refine wg_tup (by simp; done) ?_ | with_reducible refine wg_lst (by simp; done) ?_ | with_reducible refine w_dieSet (by decide) ?_ | with_reducible refine w_dieAt (by decide) (fun _ => ?_) | refine ⟨_, rfl, ?_⟩ | refine ⟨rfl, ?_⟩ | with_reducible refine wg_mkP ?_ | with_reducible refine wg_mkI ?_ | with_reducible refine wg_ixL (by rfl) ?_ | with_reducible refine wg_fld (by decide +kernel) (by rfl) ?_ | refine ⟨_, _, rfl, ?_⟩))
  refine wg_addL (by decide) ?_
  (repeat (first | with_reducible refine ws_seq ?_ | with_reducible refine ws_asg ?_ | with_reducible refine ws_ret ?_ | with_reducible refine ws_if ?_ | with_reducible refine ws_next ?_ | with_reducible refine ws_retN ?_ | with_reducible refine ws_brk ?_ | with_reducible refine ws_cont ?_ | with_reducible refine ws_drop ?_ | with_reducible refine ws_setI ?_ | with_reducible refine ws_for ?_ | with_reducible refine ws_par ?_ | with_reducible refine ws_frz ?_ | with_reducible refine ws_parO ?_ | with_reducible refine ws_setOwn ?_ | with_reducible refine ⟨fun _ => ?_, fun z => absurd rfl z⟩ | refine And.intro rt_nx fun _ => ?_ | refine And.intro bk_nx fun _ => ?_ | refine And.intro ct_nx fun _ => ?_ | with_reducible refine w_c2 ?_ | with_reducible refine w_c1 ?_ | with_reducible refine w_cA ?_ | with_reducible refine w_cons ?_ | with_reducible refine w_nil ?_ | with_reducible refine w_c ?_ | with_reducible refine w_call ?_ | with_reducible refine w_it ?_ | with_reducible refine w_rng1 ?_ | with_reducible refine w_rng2 ?_ | with_reducible refine w_m0 ?_ | with_reducible refine w_m1 ?_ | with_reducible refine w_sl ?_ | with_reducible refine w_part ?_ | with_reducible refine w_noP ?_ | with_reducible refine w_b ?_ | with_reducible refine w_notB ?_ | with_reducible refine w_if ?_ | with_reducible refine w_chain ?_ | with_reducible refine w_zip ?_ | with_reducible refine w_enum ?_ | with_reducible refine wg_add ?_ | with_reducible refine wg_sub ?_ | with_reducible refine wg_neg ?_ | with_reducible refine wg_lt ?_ | with_reducible refine wg_le ?_ | with_reducible refine wg_gt ?_ | with_reducible refine wg_ge ?_ | with_reducible refine wg_not ?_ | with_reducible refine wg_lenL ?_ | with_reducible refine wg_lenT ?_ | with_reducible refine wg_lenC ?_ | with_reducible refine wg_int ?_ | with_reducible refine wg_intB ?_ | with_reducible refine wg_abs ?_ | with_reducible refine wg_max2 ?_ | with_reducible refine wg_min2 ?_ | with_reducible refine wg_reprB ?_ | with_reducible refine wg_itL ?_ | with_reducible refine wg_itT ?_ | with_reducible refine wg_itC ?_ | with_reducible refine wg_itS ?_ | with_reducible refine wg_slL ?_ | with_reducible refine wg_slT ?_ | with_reducible refine wg_tupleL ?_ | with_reducible refine wg_tupleT ?_ | with_reducible refine wg_listL ?_ | with_reducible refine wg_listT ?_ | with_reducible refine wg_revL ?_ | with_reducible refine wg_revT ?_ | with_reducible refine wg_zipT ?_ | with_reducible refine wg_allM ?_ | with_reducible refine wg_anyM ?_ | with_reducible refine w_var (by with_unfolding_all rfl) ?_ | with_reducible refine wg_mul (Or.inr (by decide)) ?_ | with_reducible refine wg_mul (Or.inl (by decide)) ?_ | with_reducible refine wg_mod (by decide +kernel) ?_ | with_reducible refine wg_fdiv (by decide) ?_ | with_reducible refine wg_pow (by decide +kernel) ?_ | with_reducible refine wg_tup (by simp; done) ?_ | with_reducible refine wg_lst (by simp; done) ?_ | with_reducible refine w_dieSet (by decide) ?_ | with_reducible refine w_dieAt (by decide) (fun _ => ?_) | refine ⟨_, rfl, ?_⟩ | refine ⟨rfl, ?_⟩ | with_reducible refine wg_mkP ?_ | with_reducible refine wg_mkI ?_ | with_reducible refine wg_ixL (by rfl) ?_ | with_reducible refine wg_fld (by decide +kernel) (by rfl) ?_ | refine ⟨_, _, rfl, ?_⟩))
  rfl
end
theorem ok_app {a b : Str} (ha : PyData.strOk a = true) (hb : PyData.strOk b = true) : PyData.strOk (a ++ b) = true := by
  unfold PyData.strOk at *
  show (a.cps ++ b.cps).all _ = true
  rw [Array.all_append, ha, hb]
  rfl
theorem ok_join : ∀ ts : List Str, (∀ t ∈ ts, PyData.strOk t = true) → PyData.strOk (Str.join ", " ts) = true
  | [], _ => by decide +kernel
  | [x], h => h x List.mem_cons_self
  | x :: y :: r, h => by
    have ih := ok_join (y :: r) fun t ht => h t (List.mem_cons_of_mem _ ht)
    show PyData.strOk (x ++ ", " ++ Str.join ", " (y :: r)) = true
    exact ok_app (ok_app (h x List.mem_cons_self) (by decide +kernel)) ih
theorem eqD_str {x : Str} (h : PyData.strOk x = true) : eqD (.str x) (.str x) = some true := by
  have e : toP (.str x) = some (.str x) := by unfold toP; rfl
  have sh : SeqAt.shaped (.str x) = true := by
    unfold SeqAt.shaped
    simp [PyData.canLay0, PyData.depth, h]
  unfold eqD
  rw [e]
  dsimp only
  rw [if_pos ⟨sh, sh⟩]
  show some (PyData.eqv (.str x) (.str x)) = some true
  simp [PyData.eqv]
def smallB (d : D) : Bool := match toR d with
  | some p => p.showable && (decide (p.shown.length ≤ 100) && (decide (p.depth ≤ 5) && PyData.strOk p.shown))
  | none => false
theorem small_all : ∀ {ds : List D}, (∀ d ∈ ds, smallB d = true) → ∃ ps, toRs ds = some ps ∧ PyData.showableAll ps = true ∧ (∀ t ∈ PyData.shownAll ps, t.length ≤ 100 ∧ PyData.strOk t = true) ∧ PyData.depthAll ps ≤ 5 ∧ (PyData.shownAll ps).length = ds.length
  | [], _ => ⟨[], rfl, rfl, fun _ h => (nomatch h), by decide, rfl⟩
  | d :: ds, h => by
    obtain ⟨ps, e, h1, h2, h3, h4⟩ := small_all (ds := ds) fun x hx => h x (List.mem_cons_of_mem _ hx)
    have hd := h d List.mem_cons_self
    unfold smallB at hd
    cases q : toR d with
    | none => rw [q] at hd; cases hd
    | some p =>
      rw [q] at hd
      simp only [Bool.and_eq_true, decide_eq_true_eq] at hd
      refine ⟨p :: ps, by unfold toRs; rw [q, e], by simp only [PyData.showableAll, hd.1, h1, Bool.and_self], fun t ht => ?_, ?_, by simp only [PyData.shownAll, List.length_cons, h4]⟩
      · simp only [PyData.shownAll] at ht
        rcases List.mem_cons.mp ht with rfl | ht
        · exact ⟨hd.2.1, hd.2.2.2⟩
        · exact h2 t ht
      · simp only [PyData.depthAll]
        exact Nat.max_le.mpr ⟨hd.2.2.1, h3⟩
theorem sum_le {m : Nat} : ∀ {l : List Str}, (∀ t ∈ l, t.length ≤ m) → (l.map (·.length)).sum ≤ m * l.length
  | [], _ => by simp
  | a :: r, h => by
    have h1 := h a List.mem_cons_self
    have h2 := sum_le (l := r) fun t ht => h t (List.mem_cons_of_mem _ ht)
    rw [List.map_cons, List.sum_cons, List.length_cons, Nat.mul_succ]
    omega
theorem repr_small {ds : List D} (h : ∀ d ∈ ds, smallB d = true) (hl : ds.length ≤ 100) : ∃ p, toR (.lst ds) = some p ∧ reprOk p = true ∧ PyData.strOk p.shown = true := by
  obtain ⟨ps, e, h1, h2, h3, h4⟩ := small_all h
  refine ⟨.list ps, by unfold toR; rw [e]; rfl, ?_, by
    simp only [PyData.shown]
    rw [listText_eq_join]
    exact ok_app (ok_app (by decide +kernel) (ok_join _ fun t ht => (h2 t ht).2)) (by decide +kernel)⟩
  unfold reprOk
  have e1 : (PyData.list ps).showable = true := by simp only [PyData.showable]; exact h1
  have e2 : (PyData.list ps).shown.length ≤ 16777216 := by
    simp only [PyData.shown]
    have a := listText_len_le (PyData.shownAll ps)
    have b := sum_le fun t ht => (h2 t ht).1
    rw [h4] at a b
    have : 100 * ds.length ≤ 10000 := by omega
    omega
  have e3 : (PyData.list ps).depth ≤ 60 := by simp only [PyData.depth]; omega
  rw [e1, decide_eq_true e2, decide_eq_true e3]
  rfl
def gB : D → D
  | .exn c _ => .lst (bagsOf c)
  | _ => .non
def gO : D → D
  | .exn c _ => .lst (othersOf c)
  | _ => .non
theorem w_right {n : Nat} {X : XP} : Wp (IsDie n) (F_law_right [.mut n]) (fun r => r = .bl true) X := by
  refine w_def rfl ?_
  unfold b_law_right
  (repeat (first | with_reducible refine ws_seq ?_ | with_reducible refine ws_asg ?_ | with_reducible refine ws_ret ?_ | with_reducible refine ws_if ?_ | with_reducible refine ws_next ?_ | with_reducible refine ws_retN ?_ | with_reducible refine ws_brk ?_ | with_reducible refine ws_cont ?_ | with_reducible refine ws_drop ?_ | with_reducible refine ws_setI ?_ | with_reducible refine ws_for ?_ | with_reducible refine ws_par ?_ | with_reducible refine ws_frz ?_ | with_reducible refine ws_parO ?_ | with_reducible refine ws_setOwn ?_ | with_reducible refine ⟨fun _ => ?_, fun z => absurd rfl z⟩ | refine And.intro rt_nx fun _ => ?_ | refine And.intro bk_nx fun _ => ?_ | refine And.intro ct_nx fun _ => ?_ | with_reducible refine w_c2 ?_ | with_reducible refine w_c1 ?_ | with_reducible refine w_cA ?_ | with_reducible refine w_cons ?_ | with_reducible refine w_nil ?_ | with_reducible refine w_c ?_ | with_reducible refine w_call ?_ | with_reducible refine w_it ?_ | with_reducible refine w_rng1 ?_ | with_reducible refine w_rng2 ?_ | with_reducible refine w_m0 ?_ | with_reducible refine w_m1 ?_ | with_reducible refine w_sl ?_ | with_reducible refine w_part ?_ | with_reducible refine w_noP ?_ | with_reducible refine w_b ?_ | with_reducible refine w_notB ?_ | with_reducible refine w_if ?_ | with_reducible refine w_chain ?_ | with_reducible refine w_zip ?_ | with_reducible refine w_enum ?_ | with_reducible refine wg_add ?_ | with_reducible refine wg_sub ?_ | with_reducible refine wg_neg ?_ | with_reducible refine wg_lt ?_ | with_reducible refine wg_le ?_ | with_reducible refine wg_gt ?_ | with_reducible refine wg_ge ?_ | with_reducible refine wg_not ?_ | with_reducible refine wg_lenL ?_ | with_reducible refine wg_lenT ?_ | with_reducible refine wg_lenC ?_ | with_reducible refine wg_int ?_ | with_reducible refine wg_intB ?_ | with_reducible refine wg_abs ?_ | with_reducible refine wg_max2 ?_ | with_reducible refine wg_min2 ?_ | with_reducible refine wg_reprB ?_ | with_reducible refine wg_itL ?_ | with_reducible refine wg_itT ?_ | with_reducible refine wg_itC ?_ | with_reducible refine wg_itS ?_ | with_reducible refine wg_slL ?_ | with_reducible refine wg_slT ?_ | with_reducible refine wg_tupleL ?_ | with_reducible refine wg_tupleT ?_ | with_reducible refine wg_listL ?_ | with_reducible refine wg_listT ?_ | with_reducible refine wg_revL ?_ | with_reducible refine wg_revT ?_ | with_reducible refine wg_zipT ?_ | with_reducible refine wg_allM ?_ | with_reducible refine wg_anyM ?_ | with_reducible refine w_var (by with_unfolding_all rfl) ?_ | with_reducible refine wg_mul (Or.inr (by decide)) ?_ | with_reducible refine wg_mul (Or.inl (by decide)) ?_ | with_reducible refine wg_mod (by decide +kernel) ?_ | with_reducible refine wg_fdiv (by decide) ?_ | with_reducible refine wg_pow (by decide +kernel) ?_ | with_reducible refine wg_tup (by simp; done) ?_ | with_reducible refine wg_lst (by simp; done) ?_ | with_reducible refine w_dieSet (by decide) ?_ | with_reducible refine w_dieAt (by decide) (fun _ => ?_) | refine ⟨_, rfl, ?_⟩ | refine ⟨rfl, ?_⟩ | with_reducible refine wg_mkP ?_ | with_reducible refine wg_mkI ?_ | with_reducible refine wg_ixL (by rfl) ?_ | with_reducible refine wg_fld (by decide +kernel) (by rfl) ?_ | refine ⟨_, _, rfl, ?_⟩))
  refine w_comp (fun _ o => ∃ y, o = some y ∧ smallB y = true) ?_
  (repeat (first | with_reducible refine ws_seq ?_ | with_reducible refine ws_asg ?_ | with_reducible refine ws_ret ?_ | with_reducible refine ws_if ?_ | with_reducible refine ws_next ?_ | with_reducible refine ws_retN ?_ | with_reducible refine ws_brk ?_ | with_reducible refine ws_cont ?_ | with_reducible refine ws_drop ?_ | with_reducible refine ws_setI ?_ | with_reducible refine ws_for ?_ | with_reducible refine ws_par ?_ | with_reducible refine ws_frz ?_ | with_reducible refine ws_parO ?_ | with_reducible refine ws_setOwn ?_ | with_reducible refine ⟨fun _ => ?_, fun z => absurd rfl z⟩ | refine And.intro rt_nx fun _ => ?_ | refine And.intro bk_nx fun _ => ?_ | refine And.intro ct_nx fun _ => ?_ | with_reducible refine w_c2 ?_ | with_reducible refine w_c1 ?_ | with_reducible refine w_cA ?_ | with_reducible refine w_cons ?_ | with_reducible refine w_nil ?_ | with_reducible refine w_c ?_ | with_reducible refine w_call ?_ | with_reducible refine w_it ?_ | with_reducible refine w_rng1 ?_ | with_reducible refine w_rng2 ?_ | with_reducible refine w_m0 ?_ | with_reducible refine w_m1 ?_ | with_reducible refine w_sl ?_ | with_reducible refine w_part ?_ | with_reducible refine w_noP ?_ | with_reducible refine w_b ?_ | with_reducible refine w_notB ?_ | with_reducible refine w_if ?_ | with_reducible refine w_chain ?_ | with_reducible refine w_zip ?_ | with_reducible refine w_enum ?_ | with_reducible refine wg_add ?_ | with_reducible refine wg_sub ?_ | with_reducible refine wg_neg ?_ | with_reducible refine wg_lt ?_ | with_reducible refine wg_le ?_ | with_reducible refine wg_gt ?_ | with_reducible refine wg_ge ?_ | with_reducible refine wg_not ?_ | with_reducible refine wg_lenL ?_ | with_reducible refine wg_lenT ?_ | with_reducible refine wg_lenC ?_ | with_reducible refine wg_int ?_ | with_reducible refine wg_intB ?_ | with_reducible refine wg_abs ?_ | with_reducible refine wg_max2 ?_ | with_reducible refine wg_min2 ?_ | with_reducible refine wg_reprB ?_ | with_reducible refine wg_itL ?_ | with_reducible refine wg_itT ?_ | with_reducible refine wg_itC ?_ | with_reducible refine wg_itS ?_ | with_reducible refine wg_slL ?_ | with_reducible refine wg_slT ?_ | with_reducible refine wg_tupleL ?_ | with_reducible refine wg_tupleT ?_ | with_reducible refine wg_listL ?_ | with_reducible refine wg_listT ?_ | with_reducible refine wg_revL ?_ | with_reducible refine wg_revT ?_ | with_reducible refine wg_zipT ?_ | with_reducible refine wg_allM ?_ | with_reducible refine wg_anyM ?_ | with_reducible refine w_var (by with_unfolding_all rfl) ?_ | with_reducible refine wg_mul (Or.inr (by decide)) ?_ | with_reducible refine wg_mul (Or.inl (by decide)) ?_ | with_reducible refine wg_mod (by decide +kernel) ?_ | with_reducible refine wg_fdiv (by decide) ?_ | with_reducible refine wg_pow (by decide +kernel) ?_ | with_reducible refine wg_tup (by simp; done) ?_ | with_reducible refine wg_lst (by simp; done) ?_ | with_reducible refine w_dieSet (by decide) ?_ | with_reducible refine w_dieAt (by decide) (fun _ => ?_) | refine ⟨_, rfl, ?_⟩ | refine ⟨rfl, ?_⟩ | with_reducible refine wg_mkP ?_ | with_reducible refine wg_mkI ?_ | with_reducible refine wg_ixL (by rfl) ?_ | with_reducible refine wg_fld (by decide +kernel) (by rfl) ?_ | refine ⟨_, _, rfl, ?_⟩))
  with_reducible refine wg_rng1 (by decide) ⟨by decide, fun d hd => ⟨_, rfl, w_yes ⟨fun _ => ?_, fun h => (nomatch h)⟩⟩, fun ys hys => ?_⟩
  · (repeat (first | with_reducible refine ws_seq ?_ | with_reducible refine ws_asg ?_ | with_reducible refine ws_ret ?_ | with_reducible refine ws_if ?_ | with_reducible refine ws_next ?_ | with_reducible refine ws_retN ?_ | with_reducible refine ws_brk ?_ | with_reducible refine ws_cont ?_ | with_reducible refine ws_drop ?_ | with_reducible refine ws_setI ?_ | with_reducible refine ws_for ?_ | with_reducible refine ws_par ?_ | with_reducible refine ws_frz ?_ | with_reducible refine ws_parO ?_ | with_reducible refine ws_setOwn ?_ | with_reducible refine ⟨fun _ => ?_, fun z => absurd rfl z⟩ | refine And.intro rt_nx fun _ => ?_ | refine And.intro bk_nx fun _ => ?_ | refine And.intro ct_nx fun _ => ?_ | with_reducible refine w_c2 ?_ | with_reducible refine w_c1 ?_ | with_reducible refine w_cA ?_ | with_reducible refine w_cons ?_ | with_reducible refine w_nil ?_ | with_reducible refine w_c ?_ | with_reducible refine w_call ?_ | with_reducible refine w_it ?_ | with_reducible refine w_rng1 ?_ | with_reducible refine w_rng2 ?_ | with_reducible refine w_m0 ?_ | with_reducible refine w_m1 ?_ | with_reducible refine w_sl ?_ | with_reducible refine w_part ?_ | with_reducible refine w_noP ?_ | with_reducible refine w_b ?_ | with_reducible refine w_notB ?_ | with_reducible refine w_if ?_ | with_reducible refine w_chain ?_ | with_reducible refine w_zip ?_ | with_reducible refine w_enum ?_ | with_reducible refine wg_add ?_ | with_reducible refine wg_sub ?_ | with_reducible refine wg_neg ?_ | with_reducible refine wg_lt ?_ | with_reducible refine wg_le ?_ | with_reducible refine wg_gt ?_ | with_reducible refine wg_ge ?_ | with_reducible refine wg_not ?_ | with_reducible refine wg_lenL ?_ | with_reducible refine wg_lenT ?_ | with_reducible refine wg_lenC ?_ | with_reducible refine wg_int ?_ | with_reducible refine wg_intB ?_ | with_reducible refine wg_abs ?_ | with_reducible refine wg_max2 ?_ | with_reducible refine wg_min2 ?_ | with_reducible refine wg_reprB ?_ | with_reducible refine wg_itL ?_ | with_reducible refine wg_itT ?_ | with_reducible refine wg_itC ?_ | with_reducible refine wg_itS ?_ | with_reducible refine wg_slL ?_ | with_reducible refine wg_slT ?_ | with_reducible refine wg_tupleL ?_ | with_reducible refine wg_tupleT ?_ | with_reducible refine wg_listL ?_ | with_reducible refine wg_listT ?_ | with_reducible refine wg_revL ?_ | with_reducible refine wg_revT ?_ | with_reducible refine wg_zipT ?_ | with_reducible refine wg_allM ?_ | with_reducible refine wg_anyM ?_ | with_reducible refine w_var (by with_unfolding_all rfl) ?_ | with_reducible refine wg_mul (Or.inr (by decide)) ?_ | with_reducible refine wg_mul (Or.inl (by decide)) ?_ | with_reducible refine wg_mod (by decide +kernel) ?_ | with_reducible refine wg_fdiv (by decide) ?_ | with_reducible refine wg_pow (by decide +kernel) ?_ | with_reducible refine wg_tup (by simp; done) ?_ | with_reducible refine wg_lst (by simp; done) ?_ | with_reducible refine w_dieSet (by decide) ?_ | with_reducible refine w_dieAt (by decide) (fun _ => ?_) | refine ⟨_, rfl, ?_⟩ | refine ⟨rfl, ?_⟩ | with_reducible refine wg_mkP ?_ | with_reducible refine wg_mkI ?_ | with_reducible refine wg_ixL (by rfl) ?_ | with_reducible refine wg_fld (by decide +kernel) (by rfl) ?_ | refine ⟨_, _, rfl, ?_⟩))
    refine (w_pickL (by simp) (by simp)).imp (fun r hr => ⟨r, rfl, ?_⟩) fun _ _ x => x
    simp only [List.mem_cons, List.not_mem_nil, or_false] at hr
    rcases hr with h | h | h | h | h | h | h | h | h | h | h | h | h <;> subst h <;> kernel_rfl
  obtain ⟨hl, ha⟩ := hys.all
  rw [rngD_len] at hl
  match ys, hl, ha with
  | [d0, d1, d2, d3, d4, d5, d6], _, ha =>
  obtain ⟨p, ep, ok, sok⟩ := repr_small ha (by simp)
  (repeat (first | with_reducible refine ws_seq ?_ | with_reducible refine ws_asg ?_ | with_reducible refine ws_ret ?_ | with_reducible refine ws_if ?_ | with_reducible refine ws_next ?_ | with_reducible refine ws_retN ?_ | with_reducible refine ws_brk ?_ | with_reducible refine ws_cont ?_ | with_reducible refine ws_drop ?_ | with_reducible refine ws_setI ?_ | with_reducible refine ws_for ?_ | with_reducible refine ws_par ?_ | with_reducible refine ws_frz ?_ | with_reducible refine ws_parO ?_ | with_reducible refine ws_setOwn ?_ | with_reducible refine ⟨fun _ => ?_, fun z => absurd rfl z⟩ | refine And.intro rt_nx fun _ => ?_ | refine And.intro bk_nx fun _ => ?_ | refine And.intro ct_nx fun _ => ?_ | with_reducible refine w_c2 ?_ | with_reducible refine w_c1 ?_ | with_reducible refine w_cA ?_ | with_reducible refine w_cons ?_ | with_reducible refine w_nil ?_ | with_reducible refine w_c ?_ | with_reducible refine w_call ?_ | with_reducible refine w_it ?_ | with_reducible refine w_rng1 ?_ | with_reducible refine w_rng2 ?_ | with_reducible refine w_m0 ?_ | with_reducible refine w_m1 ?_ | with_reducible refine w_sl ?_ | with_reducible refine w_part ?_ | with_reducible refine w_noP ?_ | with_reducible refine w_b ?_ | with_reducible refine w_notB ?_ | with_reducible refine w_if ?_ | with_reducible refine w_chain ?_ | with_reducible refine w_zip ?_ | with_reducible refine w_enum ?_ | with_reducible refine wg_add ?_ | with_reducible refine wg_sub ?_ | with_reducible refine wg_neg ?_ | with_reducible refine wg_lt ?_ | with_reducible refine wg_le ?_ | with_reducible refine wg_gt ?_ | with_reducible refine wg_ge ?_ | with_reducible refine wg_not ?_ | with_reducible refine wg_lenL ?_ | with_reducible refine wg_lenT ?_ | with_reducible refine wg_lenC ?_ | with_reducible refine wg_int ?_ | with_reducible refine wg_intB ?_ | with_reducible refine wg_abs ?_ | with_reducible refine wg_max2 ?_ | with_reducible refine wg_min2 ?_ | with_reducible refine wg_reprB ?_ | with_reducible refine wg_itL ?_ | with_reducible refine wg_itT ?_ | with_reducible refine wg_itC ?_ | with_reducible refine wg_itS ?_ | with_reducible refine wg_slL ?_ | with_reducible refine wg_slT ?_ | with_reducible refine wg_tupleL ?_ | with_reducible refine wg_tupleT ?_ | with_reducible refine wg_listL ?_ | with_reducible refine wg_listT ?_ | with_reducible refine wg_revL ?_ | with_reducible refine wg_revT ?_ | with_reducible refine wg_zipT ?_ | with_reducible refine wg_allM ?_ | with_reducible refine wg_anyM ?_ | with_reducible refine w_var (by with_unfolding_all rfl) ?_ | with_reducible refine wg_mul (Or.inr (by decide)) ?_ | with_reducible refine wg_mul (Or.inl (by decide)) ?_ | with_reducible refine wg_mod (by decide +kernel) ?_ | with_reducible refine wg_fdiv (by decide) ?_ | with_reducible refine wg_pow (by decide +kernel) ?_ | with_reducible refine wg_tup (by simp; done) ?_ | with_reducible refine wg_lst (by simp; done) ?_ | with_reducible refine w_dieSet (by decide) ?_ | with_reducible refine w_dieAt (by decide) (fun _ => ?_) | refine ⟨_, rfl, ?_⟩ | refine ⟨rfl, ?_⟩ | with_reducible refine wg_mkP ?_ | with_reducible refine wg_mkI ?_ | with_reducible refine wg_ixL (by rfl) ?_ | with_reducible refine wg_fld (by decide +kernel) (by rfl) ?_ | refine ⟨_, _, rfl, ?_⟩))
  refine (w_pickL (by simp) (by simp)).imp (fun wd _ => ?_) fun _ _ x => x
  (repeat (first | with_reducible refine ws_seq ?_ | with_reducible refine ws_asg ?_ | with_reducible refine ws_ret ?_ | with_reducible refine ws_if ?_ | with_reducible refine ws_next ?_ | with_reducible refine ws_retN ?_ | with_reducible refine ws_brk ?_ | with_reducible refine ws_cont ?_ | with_reducible refine ws_drop ?_ | with_reducible refine ws_setI ?_ | with_reducible refine ws_for ?_ | with_reducible refine ws_par ?_ | with_reducible refine ws_frz ?_ | with_reducible refine ws_parO ?_ | with_reducible refine ws_setOwn ?_ | with_reducible refine ⟨fun _ => ?_, fun z => absurd rfl z⟩ | refine And.intro rt_nx fun _ => ?_ | refine And.intro bk_nx fun _ => ?_ | refine And.intro ct_nx fun _ => ?_ | with_reducible refine w_c2 ?_ | with_reducible refine w_c1 ?_ | with_reducible refine w_cA ?_ | with_reducible refine w_cons ?_ | with_reducible refine w_nil ?_ | with_reducible refine w_c ?_ | with_reducible refine w_call ?_ | with_reducible refine w_it ?_ | with_reducible refine w_rng1 ?_ | with_reducible refine w_rng2 ?_ | with_reducible refine w_m0 ?_ | with_reducible refine w_m1 ?_ | with_reducible refine w_sl ?_ | with_reducible refine w_part ?_ | with_reducible refine w_noP ?_ | with_reducible refine w_b ?_ | with_reducible refine w_notB ?_ | with_reducible refine w_if ?_ | with_reducible refine w_chain ?_ | with_reducible refine w_zip ?_ | with_reducible refine w_enum ?_ | with_reducible refine wg_add ?_ | with_reducible refine wg_sub ?_ | with_reducible refine wg_neg ?_ | with_reducible refine wg_lt ?_ | with_reducible refine wg_le ?_ | with_reducible refine wg_gt ?_ | with_reducible refine wg_ge ?_ | with_reducible refine wg_not ?_ | with_reducible refine wg_lenL ?_ | with_reducible refine wg_lenT ?_ | with_reducible refine wg_lenC ?_ | with_reducible refine wg_int ?_ | with_reducible refine wg_intB ?_ | with_reducible refine wg_abs ?_ | with_reducible refine wg_max2 ?_ | with_reducible refine wg_min2 ?_ | with_reducible refine wg_reprB ?_ | with_reducible refine wg_itL ?_ | with_reducible refine wg_itT ?_ | with_reducible refine wg_itC ?_ | with_reducible refine wg_itS ?_ | with_reducible refine wg_slL ?_ | with_reducible refine wg_slT ?_ | with_reducible refine wg_tupleL ?_ | with_reducible refine wg_tupleT ?_ | with_reducible refine wg_listL ?_ | with_reducible refine wg_listT ?_ | with_reducible refine wg_revL ?_ | with_reducible refine wg_revT ?_ | with_reducible refine wg_zipT ?_ | with_reducible refine wg_allM ?_ | with_reducible refine wg_anyM ?_ | with_reducible refine w_var (by with_unfolding_all rfl) ?_ | with_reducible refine wg_mul (Or.inr (by decide)) ?_ | with_reducible refine wg_mul (Or.inl (by decide)) ?_ | with_reducible refine wg_mod (by decide +kernel) ?_ | with_reducible refine wg_fdiv (by decide) ?_ | with_reducible refine wg_pow (by decide +kernel) ?_ | with_reducible refine wg_tup (by simp; done) ?_ | with_reducible refine wg_lst (by simp; done) ?_ | with_reducible refine w_dieSet (by decide) ?_ | with_reducible refine w_dieAt (by decide) (fun _ => ?_) | refine ⟨_, rfl, ?_⟩ | refine ⟨rfl, ?_⟩ | with_reducible refine wg_mkP ?_ | with_reducible refine wg_mkI ?_ | with_reducible refine wg_ixL (by rfl) ?_ | with_reducible refine wg_fld (by decide +kernel) (by rfl) ?_ | refine ⟨_, _, rfl, ?_⟩))
  refine w_plain.imp (fun r hr => ?_) fun _ _ x => x
  subst hr
  (repeat (first | with_reducible refine ws_seq ?_ | with_reducible refine ws_asg ?_ | with_reducible refine ws_ret ?_ | with_reducible refine ws_if ?_ | with_reducible refine ws_next ?_ | with_reducible refine ws_retN ?_ | with_reducible refine ws_brk ?_ | with_reducible refine ws_cont ?_ | with_reducible refine ws_drop ?_ | with_reducible refine ws_setI ?_ | with_reducible refine ws_for ?_ | with_reducible refine ws_par ?_ | with_reducible refine ws_frz ?_ | with_reducible refine ws_parO ?_ | with_reducible refine ws_setOwn ?_ | with_reducible refine ⟨fun _ => ?_, fun z => absurd rfl z⟩ | refine And.intro rt_nx fun _ => ?_ | refine And.intro bk_nx fun _ => ?_ | refine And.intro ct_nx fun _ => ?_ | with_reducible refine w_c2 ?_ | with_reducible refine w_c1 ?_ | with_reducible refine w_cA ?_ | with_reducible refine w_cons ?_ | with_reducible refine w_nil ?_ | with_reducible refine w_c ?_ | with_reducible refine w_call ?_ | with_reducible refine w_it ?_ | with_reducible refine w_rng1 ?_ | with_reducible refine w_rng2 ?_ | with_reducible refine w_m0 ?_ | with_reducible refine w_m1 ?_ | with_reducible refine w_sl ?_ | with_reducible refine w_part ?_ | with_reducible refine w_noP ?_ | with_reducible refine w_b ?_ | with_reducible refine w_notB ?_ | with_reducible refine w_if ?_ | with_reducible refine w_chain ?_ | with_reducible refine w_zip ?_ | with_reducible refine w_enum ?_ | with_reducible refine wg_add ?_ | with_reducible refine wg_sub ?_ | with_reducible refine wg_neg ?_ | with_reducible refine wg_lt ?_ | with_reducible refine wg_le ?_ | with_reducible refine wg_gt ?_ | with_reducible refine wg_ge ?_ | with_reducible refine wg_not ?_ | with_reducible refine wg_lenL ?_ | with_reducible refine wg_lenT ?_ | with_reducible refine wg_lenC ?_ | with_reducible refine wg_int ?_ | with_reducible refine wg_intB ?_ | with_reducible refine wg_abs ?_ | with_reducible refine wg_max2 ?_ | with_reducible refine wg_min2 ?_ | with_reducible refine wg_reprB ?_ | with_reducible refine wg_itL ?_ | with_reducible refine wg_itT ?_ | with_reducible refine wg_itC ?_ | with_reducible refine wg_itS ?_ | with_reducible refine wg_slL ?_ | with_reducible refine wg_slT ?_ | with_reducible refine wg_tupleL ?_ | with_reducible refine wg_tupleT ?_ | with_reducible refine wg_listL ?_ | with_reducible refine wg_listT ?_ | with_reducible refine wg_revL ?_ | with_reducible refine wg_revT ?_ | with_reducible refine wg_zipT ?_ | with_reducible refine wg_allM ?_ | with_reducible refine wg_anyM ?_ | with_reducible refine w_var (by with_unfolding_all rfl) ?_ | with_reducible refine wg_mul (Or.inr (by decide)) ?_ | with_reducible refine wg_mul (Or.inl (by decide)) ?_ | with_reducible refine wg_mod (by decide +kernel) ?_ | with_reducible refine wg_fdiv (by decide) ?_ | with_reducible refine wg_pow (by decide +kernel) ?_ | with_reducible refine wg_tup (by simp; done) ?_ | with_reducible refine wg_lst (by simp; done) ?_ | with_reducible refine w_dieSet (by decide) ?_ | with_reducible refine w_dieAt (by decide) (fun _ => ?_) | refine ⟨_, rfl, ?_⟩ | refine ⟨rfl, ?_⟩ | with_reducible refine wg_mkP ?_ | with_reducible refine wg_mkI ?_ | with_reducible refine wg_ixL (by rfl) ?_ | with_reducible refine wg_fld (by decide +kernel) (by rfl) ?_ | refine ⟨_, _, rfl, ?_⟩))
  refine w_compM gB ?_
  (repeat (first | with_reducible refine ws_seq ?_ | with_reducible refine ws_asg ?_ | with_reducible refine ws_ret ?_ | with_reducible refine ws_if ?_ | with_reducible refine ws_next ?_ | with_reducible refine ws_retN ?_ | with_reducible refine ws_brk ?_ | with_reducible refine ws_cont ?_ | with_reducible refine ws_drop ?_ | with_reducible refine ws_setI ?_ | with_reducible refine ws_for ?_ | with_reducible refine ws_par ?_ | with_reducible refine ws_frz ?_ | with_reducible refine ws_parO ?_ | with_reducible refine ws_setOwn ?_ | with_reducible refine ⟨fun _ => ?_, fun z => absurd rfl z⟩ | refine And.intro rt_nx fun _ => ?_ | refine And.intro bk_nx fun _ => ?_ | refine And.intro ct_nx fun _ => ?_ | with_reducible refine w_c2 ?_ | with_reducible refine w_c1 ?_ | with_reducible refine w_cA ?_ | with_reducible refine w_cons ?_ | with_reducible refine w_nil ?_ | with_reducible refine w_c ?_ | with_reducible refine w_call ?_ | with_reducible refine w_it ?_ | with_reducible refine w_rng1 ?_ | with_reducible refine w_rng2 ?_ | with_reducible refine w_m0 ?_ | with_reducible refine w_m1 ?_ | with_reducible refine w_sl ?_ | with_reducible refine w_part ?_ | with_reducible refine w_noP ?_ | with_reducible refine w_b ?_ | with_reducible refine w_notB ?_ | with_reducible refine w_if ?_ | with_reducible refine w_chain ?_ | with_reducible refine w_zip ?_ | with_reducible refine w_enum ?_ | with_reducible refine wg_add ?_ | with_reducible refine wg_sub ?_ | with_reducible refine wg_neg ?_ | with_reducible refine wg_lt ?_ | with_reducible refine wg_le ?_ | with_reducible refine wg_gt ?_ | with_reducible refine wg_ge ?_ | with_reducible refine wg_not ?_ | with_reducible refine wg_lenL ?_ | with_reducible refine wg_lenT ?_ | with_reducible refine wg_lenC ?_ | with_reducible refine wg_int ?_ | with_reducible refine wg_intB ?_ | with_reducible refine wg_abs ?_ | with_reducible refine wg_max2 ?_ | with_reducible refine wg_min2 ?_ | with_reducible refine wg_reprB ?_ | with_reducible refine wg_itL ?_ | with_reducible refine wg_itT ?_ | with_reducible refine wg_itC ?_ | with_reducible refine wg_itS ?_ | with_reducible refine wg_slL ?_ | with_reducible refine wg_slT ?_ | with_reducible refine wg_tupleL ?_ | with_reducible refine wg_tupleT ?_ | with_reducible refine wg_listL ?_ | with_reducible refine wg_listT ?_ | with_reducible refine wg_revL ?_ | with_reducible refine wg_revT ?_ | with_reducible refine wg_zipT ?_ | with_reducible refine wg_allM ?_ | with_reducible refine wg_anyM ?_ | with_reducible refine w_var (by with_unfolding_all rfl) ?_ | with_reducible refine wg_mul (Or.inr (by decide)) ?_ | with_reducible refine wg_mul (Or.inl (by decide)) ?_ | with_reducible refine wg_mod (by decide +kernel) ?_ | with_reducible refine wg_fdiv (by decide) ?_ | with_reducible refine wg_pow (by decide +kernel) ?_ | with_reducible refine wg_tup (by simp; done) ?_ | with_reducible refine wg_lst (by simp; done) ?_ | with_reducible refine w_dieSet (by decide) ?_ | with_reducible refine w_dieAt (by decide) (fun _ => ?_) | refine ⟨_, rfl, ?_⟩ | refine ⟨rfl, ?_⟩ | with_reducible refine wg_mkP ?_ | with_reducible refine wg_mkI ?_ | with_reducible refine wg_ixL (by rfl) ?_ | with_reducible refine wg_fld (by decide +kernel) (by rfl) ?_ | refine ⟨_, _, rfl, ?_⟩))
  refine ⟨by decide, fun d hd => ⟨_, rfl, ?_⟩, ?_⟩
  · obtain ⟨c, hc, rfl⟩ := List.mem_map.mp hd
    (repeat (first | with_reducible refine ws_seq ?_ | with_reducible refine ws_asg ?_ | with_reducible refine ws_ret ?_ | with_reducible refine ws_if ?_ | with_reducible refine ws_next ?_ | with_reducible refine ws_retN ?_ | with_reducible refine ws_brk ?_ | with_reducible refine ws_cont ?_ | with_reducible refine ws_drop ?_ | with_reducible refine ws_setI ?_ | with_reducible refine ws_for ?_ | with_reducible refine ws_par ?_ | with_reducible refine ws_frz ?_ | with_reducible refine ws_parO ?_ | with_reducible refine ws_setOwn ?_ | with_reducible refine ⟨fun _ => ?_, fun z => absurd rfl z⟩ | refine And.intro rt_nx fun _ => ?_ | refine And.intro bk_nx fun _ => ?_ | refine And.intro ct_nx fun _ => ?_ | with_reducible refine w_c2 ?_ | with_reducible refine w_c1 ?_ | with_reducible refine w_cA ?_ | with_reducible refine w_cons ?_ | with_reducible refine w_nil ?_ | with_reducible refine w_c ?_ | with_reducible refine w_call ?_ | with_reducible refine w_it ?_ | with_reducible refine w_rng1 ?_ | with_reducible refine w_rng2 ?_ | with_reducible refine w_m0 ?_ | with_reducible refine w_m1 ?_ | with_reducible refine w_sl ?_ | with_reducible refine w_part ?_ | with_reducible refine w_noP ?_ | with_reducible refine w_b ?_ | with_reducible refine w_notB ?_ | with_reducible refine w_if ?_ | with_reducible refine w_chain ?_ | with_reducible refine w_zip ?_ | with_reducible refine w_enum ?_ | with_reducible refine wg_add ?_ | with_reducible refine wg_sub ?_ | with_reducible refine wg_neg ?_ | with_reducible refine wg_lt ?_ | with_reducible refine wg_le ?_ | with_reducible refine wg_gt ?_ | with_reducible refine wg_ge ?_ | with_reducible refine wg_not ?_ | with_reducible refine wg_lenL ?_ | with_reducible refine wg_lenT ?_ | with_reducible refine wg_lenC ?_ | with_reducible refine wg_int ?_ | with_reducible refine wg_intB ?_ | with_reducible refine wg_abs ?_ | with_reducible refine wg_max2 ?_ | with_reducible refine wg_min2 ?_ | with_reducible refine wg_reprB ?_ | with_reducible refine wg_itL ?_ | with_reducible refine wg_itT ?_ | with_reducible refine wg_itC ?_ | with_reducible refine wg_itS ?_ | with_reducible refine wg_slL ?_ | with_reducible refine wg_slT ?_ | with_reducible refine wg_tupleL ?_ | with_reducible refine wg_tupleT ?_ | with_reducible refine wg_listL ?_ | with_reducible refine wg_listT ?_ | with_reducible refine wg_revL ?_ | with_reducible refine wg_revT ?_ | with_reducible refine wg_zipT ?_ | with_reducible refine wg_allM ?_ | with_reducible refine wg_anyM ?_ | with_reducible refine w_var (by with_unfolding_all rfl) ?_ | with_reducible refine wg_mul (Or.inr (by decide)) ?_ | with_reducible refine wg_mul (Or.inl (by decide)) ?_ | with_reducible refine wg_mod (by decide +kernel) ?_ | with_reducible refine wg_fdiv (by decide) ?_ | with_reducible refine wg_pow (by decide +kernel) ?_ | with_reducible refine wg_tup (by simp; done) ?_ | with_reducible refine wg_lst (by simp; done) ?_ | with_reducible refine w_dieSet (by decide) ?_ | with_reducible refine w_dieAt (by decide) (fun _ => ?_) | refine ⟨_, rfl, ?_⟩ | refine ⟨rfl, ?_⟩ | with_reducible refine wg_mkP ?_ | with_reducible refine wg_mkI ?_ | with_reducible refine wg_ixL (by rfl) ?_ | with_reducible refine wg_fld (by decide +kernel) (by rfl) ?_ | refine ⟨_, _, rfl, ?_⟩))
    exact w_bags (List.mem_append_left _ hc)
  (repeat (first | with_reducible refine ws_seq ?_ | with_reducible refine ws_asg ?_ | with_reducible refine ws_ret ?_ | with_reducible refine ws_if ?_ | with_reducible refine ws_next ?_ | with_reducible refine ws_retN ?_ | with_reducible refine ws_brk ?_ | with_reducible refine ws_cont ?_ | with_reducible refine ws_drop ?_ | with_reducible refine ws_setI ?_ | with_reducible refine ws_for ?_ | with_reducible refine ws_par ?_ | with_reducible refine ws_frz ?_ | with_reducible refine ws_parO ?_ | with_reducible refine ws_setOwn ?_ | with_reducible refine ⟨fun _ => ?_, fun z => absurd rfl z⟩ | refine And.intro rt_nx fun _ => ?_ | refine And.intro bk_nx fun _ => ?_ | refine And.intro ct_nx fun _ => ?_ | with_reducible refine w_c2 ?_ | with_reducible refine w_c1 ?_ | with_reducible refine w_cA ?_ | with_reducible refine w_cons ?_ | with_reducible refine w_nil ?_ | with_reducible refine w_c ?_ | with_reducible refine w_call ?_ | with_reducible refine w_it ?_ | with_reducible refine w_rng1 ?_ | with_reducible refine w_rng2 ?_ | with_reducible refine w_m0 ?_ | with_reducible refine w_m1 ?_ | with_reducible refine w_sl ?_ | with_reducible refine w_part ?_ | with_reducible refine w_noP ?_ | with_reducible refine w_b ?_ | with_reducible refine w_notB ?_ | with_reducible refine w_if ?_ | with_reducible refine w_chain ?_ | with_reducible refine w_zip ?_ | with_reducible refine w_enum ?_ | with_reducible refine wg_add ?_ | with_reducible refine wg_sub ?_ | with_reducible refine wg_neg ?_ | with_reducible refine wg_lt ?_ | with_reducible refine wg_le ?_ | with_reducible refine wg_gt ?_ | with_reducible refine wg_ge ?_ | with_reducible refine wg_not ?_ | with_reducible refine wg_lenL ?_ | with_reducible refine wg_lenT ?_ | with_reducible refine wg_lenC ?_ | with_reducible refine wg_int ?_ | with_reducible refine wg_intB ?_ | with_reducible refine wg_abs ?_ | with_reducible refine wg_max2 ?_ | with_reducible refine wg_min2 ?_ | with_reducible refine wg_reprB ?_ | with_reducible refine wg_itL ?_ | with_reducible refine wg_itT ?_ | with_reducible refine wg_itC ?_ | with_reducible refine wg_itS ?_ | with_reducible refine wg_slL ?_ | with_reducible refine wg_slT ?_ | with_reducible refine wg_tupleL ?_ | with_reducible refine wg_tupleT ?_ | with_reducible refine wg_listL ?_ | with_reducible refine wg_listT ?_ | with_reducible refine wg_revL ?_ | with_reducible refine wg_revT ?_ | with_reducible refine wg_zipT ?_ | with_reducible refine wg_allM ?_ | with_reducible refine wg_anyM ?_ | with_reducible refine w_var (by with_unfolding_all rfl) ?_ | with_reducible refine wg_mul (Or.inr (by decide)) ?_ | with_reducible refine wg_mul (Or.inl (by decide)) ?_ | with_reducible refine wg_mod (by decide +kernel) ?_ | with_reducible refine wg_fdiv (by decide) ?_ | with_reducible refine wg_pow (by decide +kernel) ?_ | with_reducible refine wg_tup (by simp; done) ?_ | with_reducible refine wg_lst (by simp; done) ?_ | with_reducible refine w_dieSet (by decide) ?_ | with_reducible refine w_dieAt (by decide) (fun _ => ?_) | refine ⟨_, rfl, ?_⟩ | refine ⟨rfl, ?_⟩ | with_reducible refine wg_mkP ?_ | with_reducible refine wg_mkI ?_ | with_reducible refine wg_ixL (by rfl) ?_ | with_reducible refine wg_fld (by decide +kernel) (by rfl) ?_ | refine ⟨_, _, rfl, ?_⟩))
  refine w_compM (fun d => .lst [.int 0, d]) ?_
  (repeat (first | with_reducible refine ws_seq ?_ | with_reducible refine ws_asg ?_ | with_reducible refine ws_ret ?_ | with_reducible refine ws_if ?_ | with_reducible refine ws_next ?_ | with_reducible refine ws_retN ?_ | with_reducible refine ws_brk ?_ | with_reducible refine ws_cont ?_ | with_reducible refine ws_drop ?_ | with_reducible refine ws_setI ?_ | with_reducible refine ws_for ?_ | with_reducible refine ws_par ?_ | with_reducible refine ws_frz ?_ | with_reducible refine ws_parO ?_ | with_reducible refine ws_setOwn ?_ | with_reducible refine ⟨fun _ => ?_, fun z => absurd rfl z⟩ | refine And.intro rt_nx fun _ => ?_ | refine And.intro bk_nx fun _ => ?_ | refine And.intro ct_nx fun _ => ?_ | with_reducible refine w_c2 ?_ | with_reducible refine w_c1 ?_ | with_reducible refine w_cA ?_ | with_reducible refine w_cons ?_ | with_reducible refine w_nil ?_ | with_reducible refine w_c ?_ | with_reducible refine w_call ?_ | with_reducible refine w_it ?_ | with_reducible refine w_rng1 ?_ | with_reducible refine w_rng2 ?_ | with_reducible refine w_m0 ?_ | with_reducible refine w_m1 ?_ | with_reducible refine w_sl ?_ | with_reducible refine w_part ?_ | with_reducible refine w_noP ?_ | with_reducible refine w_b ?_ | with_reducible refine w_notB ?_ | with_reducible refine w_if ?_ | with_reducible refine w_chain ?_ | with_reducible refine w_zip ?_ | with_reducible refine w_enum ?_ | with_reducible refine wg_add ?_ | with_reducible refine wg_sub ?_ | with_reducible refine wg_neg ?_ | with_reducible refine wg_lt ?_ | with_reducible refine wg_le ?_ | with_reducible refine wg_gt ?_ | with_reducible refine wg_ge ?_ | with_reducible refine wg_not ?_ | with_reducible refine wg_lenL ?_ | with_reducible refine wg_lenT ?_ | with_reducible refine wg_lenC ?_ | with_reducible refine wg_int ?_ | with_reducible refine wg_intB ?_ | with_reducible refine wg_abs ?_ | with_reducible refine wg_max2 ?_ | with_reducible refine wg_min2 ?_ | with_reducible refine wg_reprB ?_ | with_reducible refine wg_itL ?_ | with_reducible refine wg_itT ?_ | with_reducible refine wg_itC ?_ | with_reducible refine wg_itS ?_ | with_reducible refine wg_slL ?_ | with_reducible refine wg_slT ?_ | with_reducible refine wg_tupleL ?_ | with_reducible refine wg_tupleT ?_ | with_reducible refine wg_listL ?_ | with_reducible refine wg_listT ?_ | with_reducible refine wg_revL ?_ | with_reducible refine wg_revT ?_ | with_reducible refine wg_zipT ?_ | with_reducible refine wg_allM ?_ | with_reducible refine wg_anyM ?_ | with_reducible refine w_var (by with_unfolding_all rfl) ?_ | with_reducible refine wg_mul (Or.inr (by decide)) ?_ | with_reducible refine wg_mul (Or.inl (by decide)) ?_ | with_reducible refine wg_mod (by decide +kernel) ?_ | with_reducible refine wg_fdiv (by decide) ?_ | with_reducible refine wg_pow (by decide +kernel) ?_ | with_reducible refine wg_tup (by simp; done) ?_ | with_reducible refine wg_lst (by simp; done) ?_ | with_reducible refine w_dieSet (by decide) ?_ | with_reducible refine w_dieAt (by decide) (fun _ => ?_) | refine ⟨_, rfl, ?_⟩ | refine ⟨rfl, ?_⟩ | with_reducible refine wg_mkP ?_ | with_reducible refine wg_mkI ?_ | with_reducible refine wg_ixL (by rfl) ?_ | with_reducible refine wg_fld (by decide +kernel) (by rfl) ?_ | refine ⟨_, _, rfl, ?_⟩))
  refine wg_rng2 (by decide) ⟨by decide, fun d hd => ⟨_, rfl, ?_⟩, ?_⟩
  · (repeat (first | with_reducible refine ws_seq ?_ | with_reducible refine ws_asg ?_ | with_reducible refine ws_ret ?_ | with_reducible refine ws_if ?_ | with_reducible refine ws_next ?_ | with_reducible refine ws_retN ?_ | with_reducible refine ws_brk ?_ | with_reducible refine ws_cont ?_ | with_reducible refine ws_drop ?_ | with_reducible refine ws_setI ?_ | with_reducible refine ws_for ?_ | with_reducible refine ws_par ?_ | with_reducible refine ws_frz ?_ | with_reducible refine ws_parO ?_ | with_reducible refine ws_setOwn ?_ | with_reducible refine ⟨fun _ => ?_, fun z => absurd rfl z⟩ | refine And.intro rt_nx fun _ => ?_ | refine And.intro bk_nx fun _ => ?_ | refine And.intro ct_nx fun _ => ?_ | with_reducible refine w_c2 ?_ | with_reducible refine w_c1 ?_ | with_reducible refine w_cA ?_ | with_reducible refine w_cons ?_ | with_reducible refine w_nil ?_ | with_reducible refine w_c ?_ | with_reducible refine w_call ?_ | with_reducible refine w_it ?_ | with_reducible refine w_rng1 ?_ | with_reducible refine w_rng2 ?_ | with_reducible refine w_m0 ?_ | with_reducible refine w_m1 ?_ | with_reducible refine w_sl ?_ | with_reducible refine w_part ?_ | with_reducible refine w_noP ?_ | with_reducible refine w_b ?_ | with_reducible refine w_notB ?_ | with_reducible refine w_if ?_ | with_reducible refine w_chain ?_ | with_reducible refine w_zip ?_ | with_reducible refine w_enum ?_ | with_reducible refine wg_add ?_ | with_reducible refine wg_sub ?_ | with_reducible refine wg_neg ?_ | with_reducible refine wg_lt ?_ | with_reducible refine wg_le ?_ | with_reducible refine wg_gt ?_ | with_reducible refine wg_ge ?_ | with_reducible refine wg_not ?_ | with_reducible refine wg_lenL ?_ | with_reducible refine wg_lenT ?_ | with_reducible refine wg_lenC ?_ | with_reducible refine wg_int ?_ | with_reducible refine wg_intB ?_ | with_reducible refine wg_abs ?_ | with_reducible refine wg_max2 ?_ | with_reducible refine wg_min2 ?_ | with_reducible refine wg_reprB ?_ | with_reducible refine wg_itL ?_ | with_reducible refine wg_itT ?_ | with_reducible refine wg_itC ?_ | with_reducible refine wg_itS ?_ | with_reducible refine wg_slL ?_ | with_reducible refine wg_slT ?_ | with_reducible refine wg_tupleL ?_ | with_reducible refine wg_tupleT ?_ | with_reducible refine wg_listL ?_ | with_reducible refine wg_listT ?_ | with_reducible refine wg_revL ?_ | with_reducible refine wg_revT ?_ | with_reducible refine wg_zipT ?_ | with_reducible refine wg_allM ?_ | with_reducible refine wg_anyM ?_ | with_reducible refine w_var (by with_unfolding_all rfl) ?_ | with_reducible refine wg_mul (Or.inr (by decide)) ?_ | with_reducible refine wg_mul (Or.inl (by decide)) ?_ | with_reducible refine wg_mod (by decide +kernel) ?_ | with_reducible refine wg_fdiv (by decide) ?_ | with_reducible refine wg_pow (by decide +kernel) ?_ | with_reducible refine wg_tup (by simp; done) ?_ | with_reducible refine wg_lst (by simp; done) ?_ | with_reducible refine w_dieSet (by decide) ?_ | with_reducible refine w_dieAt (by decide) (fun _ => ?_) | refine ⟨_, rfl, ?_⟩ | refine ⟨rfl, ?_⟩ | with_reducible refine wg_mkP ?_ | with_reducible refine wg_mkI ?_ | with_reducible refine wg_ixL (by rfl) ?_ | with_reducible refine wg_fld (by decide +kernel) (by rfl) ?_ | refine ⟨_, _, rfl, ?_⟩))
    rfl
  refine wg_addL (by decide) ?_
  refine wg_ne (b := true) (by kernel_rfl) ?_
  refine ⟨_, rfl, fun h => (nomatch h), fun _ => ?_⟩
  (repeat (first | with_reducible refine ws_seq ?_ | with_reducible refine ws_asg ?_ | with_reducible refine ws_ret ?_ | with_reducible refine ws_if ?_ | with_reducible refine ws_next ?_ | with_reducible refine ws_retN ?_ | with_reducible refine ws_brk ?_ | with_reducible refine ws_cont ?_ | with_reducible refine ws_drop ?_ | with_reducible refine ws_setI ?_ | with_reducible refine ws_for ?_ | with_reducible refine ws_par ?_ | with_reducible refine ws_frz ?_ | with_reducible refine ws_parO ?_ | with_reducible refine ws_setOwn ?_ | with_reducible refine ⟨fun _ => ?_, fun z => absurd rfl z⟩ | refine And.intro rt_nx fun _ => ?_ | refine And.intro bk_nx fun _ => ?_ | refine And.intro ct_nx fun _ => ?_ | with_reducible refine w_c2 ?_ | with_reducible refine w_c1 ?_ | with_reducible refine w_cA ?_ | with_reducible refine w_cons ?_ | with_reducible refine w_nil ?_ | with_reducible refine w_c ?_ | with_reducible refine w_call ?_ | with_reducible refine w_it ?_ | with_reducible refine w_rng1 ?_ | with_reducible refine w_rng2 ?_ | with_reducible refine w_m0 ?_ | with_reducible refine w_m1 ?_ | with_reducible refine w_sl ?_ | with_reducible refine w_part ?_ | with_reducible refine w_noP ?_ | with_reducible refine w_b ?_ | with_reducible refine w_notB ?_ | with_reducible refine w_if ?_ | with_reducible refine w_chain ?_ | with_reducible refine w_zip ?_ | with_reducible refine w_enum ?_ | with_reducible refine wg_add ?_ | with_reducible refine wg_sub ?_ | with_reducible refine wg_neg ?_ | with_reducible refine wg_lt ?_ | with_reducible refine wg_le ?_ | with_reducible refine wg_gt ?_ | with_reducible refine wg_ge ?_ | with_reducible refine wg_not ?_ | with_reducible refine wg_lenL ?_ | with_reducible refine wg_lenT ?_ | with_reducible refine wg_lenC ?_ | with_reducible refine wg_int ?_ | with_reducible refine wg_intB ?_ | with_reducible refine wg_abs ?_ | with_reducible refine wg_max2 ?_ | with_reducible refine wg_min2 ?_ | with_reducible refine wg_reprB ?_ | with_reducible refine wg_itL ?_ | with_reducible refine wg_itT ?_ | with_reducible refine wg_itC ?_ | with_reducible refine wg_itS ?_ | with_reducible refine wg_slL ?_ | with_reducible refine wg_slT ?_ | with_reducible refine wg_tupleL ?_ | with_reducible refine wg_tupleT ?_ | with_reducible refine wg_listL ?_ | with_reducible refine wg_listT ?_ | with_reducible refine wg_revL ?_ | with_reducible refine wg_revT ?_ | with_reducible refine wg_zipT ?_ | with_reducible refine wg_allM ?_ | with_reducible refine wg_anyM ?_ | with_reducible refine w_var (by with_unfolding_all rfl) ?_ | with_reducible refine wg_mul (Or.inr (by decide)) ?_ | with_reducible refine wg_mul (Or.inl (by decide)) ?_ | with_reducible refine wg_mod (by decide +kernel) ?_ | with_reducible refine wg_fdiv (by decide) ?_ | with_reducible refine wg_pow (by decide +kernel) ?_ | with_reducible refine wg_tup (by simp; done) ?_ | with_reducible refine wg_lst (by simp; done) ?_ | with_reducible refine w_dieSet (by decide) ?_ | with_reducible refine w_dieAt (by decide) (fun _ => ?_) | refine ⟨_, rfl, ?_⟩ | refine ⟨rfl, ?_⟩ | with_reducible refine wg_mkP ?_ | with_reducible refine wg_mkI ?_ | with_reducible refine wg_ixL (by rfl) ?_ | with_reducible refine wg_fld (by decide +kernel) (by rfl) ?_ | refine ⟨_, _, rfl, ?_⟩))
  refine w_compM gO ?_
  (repeat (first | with_reducible refine ws_seq ?_ | with_reducible refine ws_asg ?_ | with_reducible refine ws_ret ?_ | with_reducible refine ws_if ?_ | with_reducible refine ws_next ?_ | with_reducible refine ws_retN ?_ | with_reducible refine ws_brk ?_ | with_reducible refine ws_cont ?_ | with_reducible refine ws_drop ?_ | with_reducible refine ws_setI ?_ | with_reducible refine ws_for ?_ | with_reducible refine ws_par ?_ | with_reducible refine ws_frz ?_ | with_reducible refine ws_parO ?_ | with_reducible refine ws_setOwn ?_ | with_reducible refine ⟨fun _ => ?_, fun z => absurd rfl z⟩ | refine And.intro rt_nx fun _ => ?_ | refine And.intro bk_nx fun _ => ?_ | refine And.intro ct_nx fun _ => ?_ | with_reducible refine w_c2 ?_ | with_reducible refine w_c1 ?_ | with_reducible refine w_cA ?_ | with_reducible refine w_cons ?_ | with_reducible refine w_nil ?_ | with_reducible refine w_c ?_ | with_reducible refine w_call ?_ | with_reducible refine w_it ?_ | with_reducible refine w_rng1 ?_ | with_reducible refine w_rng2 ?_ | with_reducible refine w_m0 ?_ | with_reducible refine w_m1 ?_ | with_reducible refine w_sl ?_ | with_reducible refine w_part ?_ | with_reducible refine w_noP ?_ | with_reducible refine w_b ?_ | with_reducible refine w_notB ?_ | with_reducible refine w_if ?_ | with_reducible refine w_chain ?_ | with_reducible refine w_zip ?_ | with_reducible refine w_enum ?_ | with_reducible refine wg_add ?_ | with_reducible refine wg_sub ?_ | with_reducible refine wg_neg ?_ | with_reducible refine wg_lt ?_ | with_reducible refine wg_le ?_ | with_reducible refine wg_gt ?_ | with_reducible refine wg_ge ?_ | with_reducible refine wg_not ?_ | with_reducible refine wg_lenL ?_ | with_reducible refine wg_lenT ?_ | with_reducible refine wg_lenC ?_ | with_reducible refine wg_int ?_ | with_reducible refine wg_intB ?_ | with_reducible refine wg_abs ?_ | with_reducible refine wg_max2 ?_ | with_reducible refine wg_min2 ?_ | with_reducible refine wg_reprB ?_ | with_reducible refine wg_itL ?_ | with_reducible refine wg_itT ?_ | with_reducible refine wg_itC ?_ | with_reducible refine wg_itS ?_ | with_reducible refine wg_slL ?_ | with_reducible refine wg_slT ?_ | with_reducible refine wg_tupleL ?_ | with_reducible refine wg_tupleT ?_ | with_reducible refine wg_listL ?_ | with_reducible refine wg_listT ?_ | with_reducible refine wg_revL ?_ | with_reducible refine wg_revT ?_ | with_reducible refine wg_zipT ?_ | with_reducible refine wg_allM ?_ | with_reducible refine wg_anyM ?_ | with_reducible refine w_var (by with_unfolding_all rfl) ?_ | with_reducible refine wg_mul (Or.inr (by decide)) ?_ | with_reducible refine wg_mul (Or.inl (by decide)) ?_ | with_reducible refine wg_mod (by decide +kernel) ?_ | with_reducible refine wg_fdiv (by decide) ?_ | with_reducible refine wg_pow (by decide +kernel) ?_ | with_reducible refine wg_tup (by simp; done) ?_ | with_reducible refine wg_lst (by simp; done) ?_ | with_reducible refine w_dieSet (by decide) ?_ | with_reducible refine w_dieAt (by decide) (fun _ => ?_) | refine ⟨_, rfl, ?_⟩ | refine ⟨rfl, ?_⟩ | with_reducible refine wg_mkP ?_ | with_reducible refine wg_mkI ?_ | with_reducible refine wg_ixL (by rfl) ?_ | with_reducible refine wg_fld (by decide +kernel) (by rfl) ?_ | refine ⟨_, _, rfl, ?_⟩))
  refine ⟨by decide, fun d hd => ⟨_, rfl, ?_⟩, ?_⟩
  · obtain ⟨c, hc, rfl⟩ := List.mem_map.mp hd
    (repeat (first | with_reducible refine ws_seq ?_ | with_reducible refine ws_asg ?_ | with_reducible refine ws_ret ?_ | with_reducible refine ws_if ?_ | with_reducible refine ws_next ?_ | with_reducible refine ws_retN ?_ | with_reducible refine ws_brk ?_ | with_reducible refine ws_cont ?_ | with_reducible refine ws_drop ?_ | with_reducible refine ws_setI ?_ | with_reducible refine ws_for ?_ | with_reducible refine ws_par ?_ | with_reducible refine ws_frz ?_ | with_reducible refine ws_parO ?_ | with_reducible refine ws_setOwn ?_ | with_reducible refine ⟨fun _ => ?_, fun z => absurd rfl z⟩ | refine And.intro rt_nx fun _ => ?_ | refine And.intro bk_nx fun _ => ?_ | refine And.intro ct_nx fun _ => ?_ | with_reducible refine w_c2 ?_ | with_reducible refine w_c1 ?_ | with_reducible refine w_cA ?_ | with_reducible refine w_cons ?_ | with_reducible refine w_nil ?_ | with_reducible refine w_c ?_ | with_reducible refine w_call ?_ | with_reducible refine w_it ?_ | with_reducible refine w_rng1 ?_ | with_reducible refine w_rng2 ?_ | with_reducible refine w_m0 ?_ | with_reducible refine w_m1 ?_ | with_reducible refine w_sl ?_ | with_reducible refine w_part ?_ | with_reducible refine w_noP ?_ | with_reducible refine w_b ?_ | with_reducible refine w_notB ?_ | with_reducible refine w_if ?_ | with_reducible refine w_chain ?_ | with_reducible refine w_zip ?_ | with_reducible refine w_enum ?_ | with_reducible refine wg_add ?_ | with_reducible refine wg_sub ?_ | with_reducible refine wg_neg ?_ | with_reducible refine wg_lt ?_ | with_reducible refine wg_le ?_ | with_reducible refine wg_gt ?_ | with_reducible refine wg_ge ?_ | with_reducible refine wg_not ?_ | with_reducible refine wg_lenL ?_ | with_reducible refine wg_lenT ?_ | with_reducible refine wg_lenC ?_ | with_reducible refine wg_int ?_ | with_reducible refine wg_intB ?_ | with_reducible refine wg_abs ?_ | with_reducible refine wg_max2 ?_ | with_reducible refine wg_min2 ?_ | with_reducible refine wg_reprB ?_ | with_reducible refine wg_itL ?_ | with_reducible refine wg_itT ?_ | with_reducible refine wg_itC ?_ | with_reducible refine wg_itS ?_ | with_reducible refine wg_slL ?_ | with_reducible refine wg_slT ?_ | with_reducible refine wg_tupleL ?_ | with_reducible refine wg_tupleT ?_ | with_reducible refine wg_listL ?_ | with_reducible refine wg_listT ?_ | with_reducible refine wg_revL ?_ | with_reducible refine wg_revT ?_ | with_reducible refine wg_zipT ?_ | with_reducible refine wg_allM ?_ | with_reducible refine wg_anyM ?_ | with_reducible refine w_var (by with_unfolding_all rfl) ?_ | with_reducible refine wg_mul (Or.inr (by decide)) ?_ | with_reducible refine wg_mul (Or.inl (by decide)) ?_ | with_reducible refine wg_mod (by decide +kernel) ?_ | with_reducible refine wg_fdiv (by decide) ?_ | with_reducible refine wg_pow (by decide +kernel) ?_ | with_reducible refine wg_tup (by simp; done) ?_ | with_reducible refine wg_lst (by simp; done) ?_ | with_reducible refine w_dieSet (by decide) ?_ | with_reducible refine w_dieAt (by decide) (fun _ => ?_) | refine ⟨_, rfl, ?_⟩ | refine ⟨rfl, ?_⟩ | with_reducible refine wg_mkP ?_ | with_reducible refine wg_mkI ?_ | with_reducible refine wg_ixL (by rfl) ?_ | with_reducible refine wg_fld (by decide +kernel) (by rfl) ?_ | refine ⟨_, _, rfl, ?_⟩))
    exact w_others (List.mem_append_left _ hc)
  (repeat (first | with_reducible refine ws_seq ?_ | with_reducible refine ws_asg ?_ | with_reducible refine ws_ret ?_ | with_reducible refine ws_if ?_ | with_reducible refine ws_next ?_ | with_reducible refine ws_retN ?_ | with_reducible refine ws_brk ?_ | with_reducible refine ws_cont ?_ | with_reducible refine ws_drop ?_ | with_reducible refine ws_setI ?_ | with_reducible refine ws_for ?_ | with_reducible refine ws_par ?_ | with_reducible refine ws_frz ?_ | with_reducible refine ws_parO ?_ | with_reducible refine ws_setOwn ?_ | with_reducible refine ⟨fun _ => ?_, fun z => absurd rfl z⟩ | refine And.intro rt_nx fun _ => ?_ | refine And.intro bk_nx fun _ => ?_ | refine And.intro ct_nx fun _ => ?_ | with_reducible refine w_c2 ?_ | with_reducible refine w_c1 ?_ | with_reducible refine w_cA ?_ | with_reducible refine w_cons ?_ | with_reducible refine w_nil ?_ | with_reducible refine w_c ?_ | with_reducible refine w_call ?_ | with_reducible refine w_it ?_ | with_reducible refine w_rng1 ?_ | with_reducible refine w_rng2 ?_ | with_reducible refine w_m0 ?_ | with_reducible refine w_m1 ?_ | with_reducible refine w_sl ?_ | with_reducible refine w_part ?_ | with_reducible refine w_noP ?_ | with_reducible refine w_b ?_ | with_reducible refine w_notB ?_ | with_reducible refine w_if ?_ | with_reducible refine w_chain ?_ | with_reducible refine w_zip ?_ | with_reducible refine w_enum ?_ | with_reducible refine wg_add ?_ | with_reducible refine wg_sub ?_ | with_reducible refine wg_neg ?_ | with_reducible refine wg_lt ?_ | with_reducible refine wg_le ?_ | with_reducible refine wg_gt ?_ | with_reducible refine wg_ge ?_ | with_reducible refine wg_not ?_ | with_reducible refine wg_lenL ?_ | with_reducible refine wg_lenT ?_ | with_reducible refine wg_lenC ?_ | with_reducible refine wg_int ?_ | with_reducible refine wg_intB ?_ | with_reducible refine wg_abs ?_ | with_reducible refine wg_max2 ?_ | with_reducible refine wg_min2 ?_ | with_reducible refine wg_reprB ?_ | with_reducible refine wg_itL ?_ | with_reducible refine wg_itT ?_ | with_reducible refine wg_itC ?_ | with_reducible refine wg_itS ?_ | with_reducible refine wg_slL ?_ | with_reducible refine wg_slT ?_ | with_reducible refine wg_tupleL ?_ | with_reducible refine wg_tupleT ?_ | with_reducible refine wg_listL ?_ | with_reducible refine wg_listT ?_ | with_reducible refine wg_revL ?_ | with_reducible refine wg_revT ?_ | with_reducible refine wg_zipT ?_ | with_reducible refine wg_allM ?_ | with_reducible refine wg_anyM ?_ | with_reducible refine w_var (by with_unfolding_all rfl) ?_ | with_reducible refine wg_mul (Or.inr (by decide)) ?_ | with_reducible refine wg_mul (Or.inl (by decide)) ?_ | with_reducible refine wg_mod (by decide +kernel) ?_ | with_reducible refine wg_fdiv (by decide) ?_ | with_reducible refine wg_pow (by decide +kernel) ?_ | with_reducible refine wg_tup (by simp; done) ?_ | with_reducible refine wg_lst (by simp; done) ?_ | with_reducible refine w_dieSet (by decide) ?_ | with_reducible refine w_dieAt (by decide) (fun _ => ?_) | refine ⟨_, rfl, ?_⟩ | refine ⟨rfl, ?_⟩ | with_reducible refine wg_mkP ?_ | with_reducible refine wg_mkI ?_ | with_reducible refine wg_ixL (by rfl) ?_ | with_reducible refine wg_fld (by decide +kernel) (by rfl) ?_ | refine ⟨_, _, rfl, ?_⟩))
  refine wg_mulL ⟨by decide, by decide, by decide⟩ ?_
  refine wg_ne (b := true) (by kernel_rfl) ?_
  refine ⟨_, rfl, fun h => (nomatch h), fun _ => ?_⟩
  (repeat (first | with_reducible refine ws_seq ?_ | with_reducible refine ws_asg ?_ | with_reducible refine ws_ret ?_ | with_reducible refine ws_if ?_ | with_reducible refine ws_next ?_ | with_reducible refine ws_retN ?_ | with_reducible refine ws_brk ?_ | with_reducible refine ws_cont ?_ | with_reducible refine ws_drop ?_ | with_reducible refine ws_setI ?_ | with_reducible refine ws_for ?_ | with_reducible refine ws_par ?_ | with_reducible refine ws_frz ?_ | with_reducible refine ws_parO ?_ | with_reducible refine ws_setOwn ?_ | with_reducible refine ⟨fun _ => ?_, fun z => absurd rfl z⟩ | refine And.intro rt_nx fun _ => ?_ | refine And.intro bk_nx fun _ => ?_ | refine And.intro ct_nx fun _ => ?_ | with_reducible refine w_c2 ?_ | with_reducible refine w_c1 ?_ | with_reducible refine w_cA ?_ | with_reducible refine w_cons ?_ | with_reducible refine w_nil ?_ | with_reducible refine w_c ?_ | with_reducible refine w_call ?_ | with_reducible refine w_it ?_ | with_reducible refine w_rng1 ?_ | with_reducible refine w_rng2 ?_ | with_reducible refine w_m0 ?_ | with_reducible refine w_m1 ?_ | with_reducible refine w_sl ?_ | with_reducible refine w_part ?_ | with_reducible refine w_noP ?_ | with_reducible refine w_b ?_ | with_reducible refine w_notB ?_ | with_reducible refine w_if ?_ | with_reducible refine w_chain ?_ | with_reducible refine w_zip ?_ | with_reducible refine w_enum ?_ | with_reducible refine wg_add ?_ | with_reducible refine wg_sub ?_ | with_reducible refine wg_neg ?_ | with_reducible refine wg_lt ?_ | with_reducible refine wg_le ?_ | with_reducible refine wg_gt ?_ | with_reducible refine wg_ge ?_ | with_reducible refine wg_not ?_ | with_reducible refine wg_lenL ?_ | with_reducible refine wg_lenT ?_ | with_reducible refine wg_lenC ?_ | with_reducible refine wg_int ?_ | with_reducible refine wg_intB ?_ | with_reducible refine wg_abs ?_ | with_reducible refine wg_max2 ?_ | with_reducible refine wg_min2 ?_ | with_reducible refine wg_reprB ?_ | with_reducible refine wg_itL ?_ | with_reducible refine wg_itT ?_ | with_reducible refine wg_itC ?_ | with_reducible refine wg_itS ?_ | with_reducible refine wg_slL ?_ | with_reducible refine wg_slT ?_ | with_reducible refine wg_tupleL ?_ | with_reducible refine wg_tupleT ?_ | with_reducible refine wg_listL ?_ | with_reducible refine wg_listT ?_ | with_reducible refine wg_revL ?_ | with_reducible refine wg_revT ?_ | with_reducible refine wg_zipT ?_ | with_reducible refine wg_allM ?_ | with_reducible refine wg_anyM ?_ | with_reducible refine w_var (by with_unfolding_all rfl) ?_ | with_reducible refine wg_mul (Or.inr (by decide)) ?_ | with_reducible refine wg_mul (Or.inl (by decide)) ?_ | with_reducible refine wg_mod (by decide +kernel) ?_ | with_reducible refine wg_fdiv (by decide) ?_ | with_reducible refine wg_pow (by decide +kernel) ?_ | with_reducible refine wg_tup (by simp; done) ?_ | with_reducible refine wg_lst (by simp; done) ?_ | with_reducible refine w_dieSet (by decide) ?_ | with_reducible refine w_dieAt (by decide) (fun _ => ?_) | refine ⟨_, rfl, ?_⟩ | refine ⟨rfl, ?_⟩ | with_reducible refine wg_mkP ?_ | with_reducible refine wg_mkI ?_ | with_reducible refine wg_ixL (by rfl) ?_ | with_reducible refine wg_fld (by decide +kernel) (by rfl) ?_ | refine ⟨_, _, rfl, ?_⟩))
  refine wg_ixL (d := d0) (by kernel_rfl) ?_
  (repeat (first | with_reducible refine ws_seq ?_ | with_reducible refine ws_asg ?_ | with_reducible refine ws_ret ?_ | with_reducible refine ws_if ?_ | with_reducible refine ws_next ?_ | with_reducible refine ws_retN ?_ | with_reducible refine ws_brk ?_ | with_reducible refine ws_cont ?_ | with_reducible refine ws_drop ?_ | with_reducible refine ws_setI ?_ | with_reducible refine ws_for ?_ | with_reducible refine ws_par ?_ | with_reducible refine ws_frz ?_ | with_reducible refine ws_parO ?_ | with_reducible refine ws_setOwn ?_ | with_reducible refine ⟨fun _ => ?_, fun z => absurd rfl z⟩ | refine And.intro rt_nx fun _ => ?_ | refine And.intro bk_nx fun _ => ?_ | refine And.intro ct_nx fun _ => ?_ | with_reducible refine w_c2 ?_ | with_reducible refine w_c1 ?_ | with_reducible refine w_cA ?_ | with_reducible refine w_cons ?_ | with_reducible refine w_nil ?_ | with_reducible refine w_c ?_ | with_reducible refine w_call ?_ | with_reducible refine w_it ?_ | with_reducible refine w_rng1 ?_ | with_reducible refine w_rng2 ?_ | with_reducible refine w_m0 ?_ | with_reducible refine w_m1 ?_ | with_reducible refine w_sl ?_ | with_reducible refine w_part ?_ | with_reducible refine w_noP ?_ | with_reducible refine w_b ?_ | with_reducible refine w_notB ?_ | with_reducible refine w_if ?_ | with_reducible refine w_chain ?_ | with_reducible refine w_zip ?_ | with_reducible refine w_enum ?_ | with_reducible refine wg_add ?_ | with_reducible refine wg_sub ?_ | with_reducible refine wg_neg ?_ | with_reducible refine wg_lt ?_ | with_reducible refine wg_le ?_ | with_reducible refine wg_gt ?_ | with_reducible refine wg_ge ?_ | with_reducible refine wg_not ?_ | with_reducible refine wg_lenL ?_ | with_reducible refine wg_lenT ?_ | with_reducible refine wg_lenC ?_ | with_reducible refine wg_int ?_ | with_reducible refine wg_intB ?_ | with_reducible refine wg_abs ?_ | with_reducible refine wg_max2 ?_ | with_reducible refine wg_min2 ?_ | with_reducible refine wg_reprB ?_ | with_reducible refine wg_itL ?_ | with_reducible refine wg_itT ?_ | with_reducible refine wg_itC ?_ | with_reducible refine wg_itS ?_ | with_reducible refine wg_slL ?_ | with_reducible refine wg_slT ?_ | with_reducible refine wg_tupleL ?_ | with_reducible refine wg_tupleT ?_ | with_reducible refine wg_listL ?_ | with_reducible refine wg_listT ?_ | with_reducible refine wg_revL ?_ | with_reducible refine wg_revT ?_ | with_reducible refine wg_zipT ?_ | with_reducible refine wg_allM ?_ | with_reducible refine wg_anyM ?_ | with_reducible refine w_var (by with_unfolding_all rfl) ?_ | with_reducible refine wg_mul (Or.inr (by decide)) ?_ | with_reducible refine wg_mul (Or.inl (by decide)) ?_ | with_reducible refine wg_mod (by decide +kernel) ?_ | with_reducible refine wg_fdiv (by decide) ?_ | with_reducible refine wg_pow (by decide +kernel) ?_ | with_reducible refine wg_tup (by simp; done) ?_ | with_reducible refine wg_lst (by simp; done) ?_ | with_reducible refine w_dieSet (by decide) ?_ | with_reducible refine w_dieAt (by decide) (fun _ => ?_) | refine ⟨_, rfl, ?_⟩ | refine ⟨rfl, ?_⟩ | with_reducible refine wg_mkP ?_ | with_reducible refine wg_mkI ?_ | with_reducible refine wg_ixL (by rfl) ?_ | with_reducible refine wg_fld (by decide +kernel) (by rfl) ?_ | refine ⟨_, _, rfl, ?_⟩))
  refine wg_ixL (d := d1) (by kernel_rfl) ?_
  (repeat (first | with_reducible refine ws_seq ?_ | with_reducible refine ws_asg ?_ | with_reducible refine ws_ret ?_ | with_reducible refine ws_if ?_ | with_reducible refine ws_next ?_ | with_reducible refine ws_retN ?_ | with_reducible refine ws_brk ?_ | with_reducible refine ws_cont ?_ | with_reducible refine ws_drop ?_ | with_reducible refine ws_setI ?_ | with_reducible refine ws_for ?_ | with_reducible refine ws_par ?_ | with_reducible refine ws_frz ?_ | with_reducible refine ws_parO ?_ | with_reducible refine ws_setOwn ?_ | with_reducible refine ⟨fun _ => ?_, fun z => absurd rfl z⟩ | refine And.intro rt_nx fun _ => ?_ | refine And.intro bk_nx fun _ => ?_ | refine And.intro ct_nx fun _ => ?_ | with_reducible refine w_c2 ?_ | with_reducible refine w_c1 ?_ | with_reducible refine w_cA ?_ | with_reducible refine w_cons ?_ | with_reducible refine w_nil ?_ | with_reducible refine w_c ?_ | with_reducible refine w_call ?_ | with_reducible refine w_it ?_ | with_reducible refine w_rng1 ?_ | with_reducible refine w_rng2 ?_ | with_reducible refine w_m0 ?_ | with_reducible refine w_m1 ?_ | with_reducible refine w_sl ?_ | with_reducible refine w_part ?_ | with_reducible refine w_noP ?_ | with_reducible refine w_b ?_ | with_reducible refine w_notB ?_ | with_reducible refine w_if ?_ | with_reducible refine w_chain ?_ | with_reducible refine w_zip ?_ | with_reducible refine w_enum ?_ | with_reducible refine wg_add ?_ | with_reducible refine wg_sub ?_ | with_reducible refine wg_neg ?_ | with_reducible refine wg_lt ?_ | with_reducible refine wg_le ?_ | with_reducible refine wg_gt ?_ | with_reducible refine wg_ge ?_ | with_reducible refine wg_not ?_ | with_reducible refine wg_lenL ?_ | with_reducible refine wg_lenT ?_ | with_reducible refine wg_lenC ?_ | with_reducible refine wg_int ?_ | with_reducible refine wg_intB ?_ | with_reducible refine wg_abs ?_ | with_reducible refine wg_max2 ?_ | with_reducible refine wg_min2 ?_ | with_reducible refine wg_reprB ?_ | with_reducible refine wg_itL ?_ | with_reducible refine wg_itT ?_ | with_reducible refine wg_itC ?_ | with_reducible refine wg_itS ?_ | with_reducible refine wg_slL ?_ | with_reducible refine wg_slT ?_ | with_reducible refine wg_tupleL ?_ | with_reducible refine wg_tupleT ?_ | with_reducible refine wg_listL ?_ | with_reducible refine wg_listT ?_ | with_reducible refine wg_revL ?_ | with_reducible refine wg_revT ?_ | with_reducible refine wg_zipT ?_ | with_reducible refine wg_allM ?_ | with_reducible refine wg_anyM ?_ | with_reducible refine w_var (by with_unfolding_all rfl) ?_ | with_reducible refine wg_mul (Or.inr (by decide)) ?_ | with_reducible refine wg_mul (Or.inl (by decide)) ?_ | with_reducible refine wg_mod (by decide +kernel) ?_ | with_reducible refine wg_fdiv (by decide) ?_ | with_reducible refine wg_pow (by decide +kernel) ?_ | with_reducible refine wg_tup (by simp; done) ?_ | with_reducible refine wg_lst (by simp; done) ?_ | with_reducible refine w_dieSet (by decide) ?_ | with_reducible refine w_dieAt (by decide) (fun _ => ?_) | refine ⟨_, rfl, ?_⟩ | refine ⟨rfl, ?_⟩ | with_reducible refine wg_mkP ?_ | with_reducible refine wg_mkI ?_ | with_reducible refine wg_ixL (by rfl) ?_ | with_reducible refine wg_fld (by decide +kernel) (by rfl) ?_ | refine ⟨_, _, rfl, ?_⟩))
  refine wg_ixL (d := d2) (by kernel_rfl) ?_
  (repeat (first | with_reducible refine ws_seq ?_ | with_reducible refine ws_asg ?_ | with_reducible refine ws_ret ?_ | with_reducible refine ws_if ?_ | with_reducible refine ws_next ?_ | with_reducible refine ws_retN ?_ | with_reducible refine ws_brk ?_ | with_reducible refine ws_cont ?_ | with_reducible refine ws_drop ?_ | with_reducible refine ws_setI ?_ | with_reducible refine ws_for ?_ | with_reducible refine ws_par ?_ | with_reducible refine ws_frz ?_ | with_reducible refine ws_parO ?_ | with_reducible refine ws_setOwn ?_ | with_reducible refine ⟨fun _ => ?_, fun z => absurd rfl z⟩ | refine And.intro rt_nx fun _ => ?_ | refine And.intro bk_nx fun _ => ?_ | refine And.intro ct_nx fun _ => ?_ | with_reducible refine w_c2 ?_ | with_reducible refine w_c1 ?_ | with_reducible refine w_cA ?_ | with_reducible refine w_cons ?_ | with_reducible refine w_nil ?_ | with_reducible refine w_c ?_ | with_reducible refine w_call ?_ | with_reducible refine w_it ?_ | with_reducible refine w_rng1 ?_ | with_reducible refine w_rng2 ?_ | with_reducible refine w_m0 ?_ | with_reducible refine w_m1 ?_ | with_reducible refine w_sl ?_ | with_reducible refine w_part ?_ | with_reducible refine w_noP ?_ | with_reducible refine w_b ?_ | with_reducible refine w_notB ?_ | with_reducible refine w_if ?_ | with_reducible refine w_chain ?_ | with_reducible refine w_zip ?_ | with_reducible refine w_enum ?_ | with_reducible refine wg_add ?_ | with_reducible refine wg_sub ?_ | with_reducible refine wg_neg ?_ | with_reducible refine wg_lt ?_ | with_reducible refine wg_le ?_ | with_reducible refine wg_gt ?_ | with_reducible refine wg_ge ?_ | with_reducible refine wg_not ?_ | with_reducible refine wg_lenL ?_ | with_reducible refine wg_lenT ?_ | with_reducible refine wg_lenC ?_ | with_reducible refine wg_int ?_ | with_reducible refine wg_intB ?_ | with_reducible refine wg_abs ?_ | with_reducible refine wg_max2 ?_ | with_reducible refine wg_min2 ?_ | with_reducible refine wg_reprB ?_ | with_reducible refine wg_itL ?_ | with_reducible refine wg_itT ?_ | with_reducible refine wg_itC ?_ | with_reducible refine wg_itS ?_ | with_reducible refine wg_slL ?_ | with_reducible refine wg_slT ?_ | with_reducible refine wg_tupleL ?_ | with_reducible refine wg_tupleT ?_ | with_reducible refine wg_listL ?_ | with_reducible refine wg_listT ?_ | with_reducible refine wg_revL ?_ | with_reducible refine wg_revT ?_ | with_reducible refine wg_zipT ?_ | with_reducible refine wg_allM ?_ | with_reducible refine wg_anyM ?_ | with_reducible refine w_var (by with_unfolding_all rfl) ?_ | with_reducible refine wg_mul (Or.inr (by decide)) ?_ | with_reducible refine wg_mul (Or.inl (by decide)) ?_ | with_reducible refine wg_mod (by decide +kernel) ?_ | with_reducible refine wg_fdiv (by decide) ?_ | with_reducible refine wg_pow (by decide +kernel) ?_ | with_reducible refine wg_tup (by simp; done) ?_ | with_reducible refine wg_lst (by simp; done) ?_ | with_reducible refine w_dieSet (by decide) ?_ | with_reducible refine w_dieAt (by decide) (fun _ => ?_) | refine ⟨_, rfl, ?_⟩ | refine ⟨rfl, ?_⟩ | with_reducible refine wg_mkP ?_ | with_reducible refine wg_mkI ?_ | with_reducible refine wg_ixL (by rfl) ?_ | with_reducible refine wg_fld (by decide +kernel) (by rfl) ?_ | refine ⟨_, _, rfl, ?_⟩))
  refine wg_ixL (d := d3) (by kernel_rfl) ?_
  (repeat (first | with_reducible refine ws_seq ?_ | with_reducible refine ws_asg ?_ | with_reducible refine ws_ret ?_ | with_reducible refine ws_if ?_ | with_reducible refine ws_next ?_ | with_reducible refine ws_retN ?_ | with_reducible refine ws_brk ?_ | with_reducible refine ws_cont ?_ | with_reducible refine ws_drop ?_ | with_reducible refine ws_setI ?_ | with_reducible refine ws_for ?_ | with_reducible refine ws_par ?_ | with_reducible refine ws_frz ?_ | with_reducible refine ws_parO ?_ | with_reducible refine ws_setOwn ?_ | with_reducible refine ⟨fun _ => ?_, fun z => absurd rfl z⟩ | refine And.intro rt_nx fun _ => ?_ | refine And.intro bk_nx fun _ => ?_ | refine And.intro ct_nx fun _ => ?_ | with_reducible refine w_c2 ?_ | with_reducible refine w_c1 ?_ | with_reducible refine w_cA ?_ | with_reducible refine w_cons ?_ | with_reducible refine w_nil ?_ | with_reducible refine w_c ?_ | with_reducible refine w_call ?_ | with_reducible refine w_it ?_ | with_reducible refine w_rng1 ?_ | with_reducible refine w_rng2 ?_ | with_reducible refine w_m0 ?_ | with_reducible refine w_m1 ?_ | with_reducible refine w_sl ?_ | with_reducible refine w_part ?_ | with_reducible refine w_noP ?_ | with_reducible refine w_b ?_ | with_reducible refine w_notB ?_ | with_reducible refine w_if ?_ | with_reducible refine w_chain ?_ | with_reducible refine w_zip ?_ | with_reducible refine w_enum ?_ | with_reducible refine wg_add ?_ | with_reducible refine wg_sub ?_ | with_reducible refine wg_neg ?_ | with_reducible refine wg_lt ?_ | with_reducible refine wg_le ?_ | with_reducible refine wg_gt ?_ | with_reducible refine wg_ge ?_ | with_reducible refine wg_not ?_ | with_reducible refine wg_lenL ?_ | with_reducible refine wg_lenT ?_ | with_reducible refine wg_lenC ?_ | with_reducible refine wg_int ?_ | with_reducible refine wg_intB ?_ | with_reducible refine wg_abs ?_ | with_reducible refine wg_max2 ?_ | with_reducible refine wg_min2 ?_ | with_reducible refine wg_reprB ?_ | with_reducible refine wg_itL ?_ | with_reducible refine wg_itT ?_ | with_reducible refine wg_itC ?_ | with_reducible refine wg_itS ?_ | with_reducible refine wg_slL ?_ | with_reducible refine wg_slT ?_ | with_reducible refine wg_tupleL ?_ | with_reducible refine wg_tupleT ?_ | with_reducible refine wg_listL ?_ | with_reducible refine wg_listT ?_ | with_reducible refine wg_revL ?_ | with_reducible refine wg_revT ?_ | with_reducible refine wg_zipT ?_ | with_reducible refine wg_allM ?_ | with_reducible refine wg_anyM ?_ | with_reducible refine w_var (by with_unfolding_all rfl) ?_ | with_reducible refine wg_mul (Or.inr (by decide)) ?_ | with_reducible refine wg_mul (Or.inl (by decide)) ?_ | with_reducible refine wg_mod (by decide +kernel) ?_ | with_reducible refine wg_fdiv (by decide) ?_ | with_reducible refine wg_pow (by decide +kernel) ?_ | with_reducible refine wg_tup (by simp; done) ?_ | with_reducible refine wg_lst (by simp; done) ?_ | with_reducible refine w_dieSet (by decide) ?_ | with_reducible refine w_dieAt (by decide) (fun _ => ?_) | refine ⟨_, rfl, ?_⟩ | refine ⟨rfl, ?_⟩ | with_reducible refine wg_mkP ?_ | with_reducible refine wg_mkI ?_ | with_reducible refine wg_ixL (by rfl) ?_ | with_reducible refine wg_fld (by decide +kernel) (by rfl) ?_ | refine ⟨_, _, rfl, ?_⟩))
  refine wg_ixL (d := d4) (by kernel_rfl) ?_
  (repeat (first | with_reducible refine ws_seq ?_ | with_reducible refine ws_asg ?_ | with_reducible refine ws_ret ?_ | with_reducible refine ws_if ?_ | with_reducible refine ws_next ?_ | with_reducible refine ws_retN ?_ | with_reducible refine ws_brk ?_ | with_reducible refine ws_cont ?_ | with_reducible refine ws_drop ?_ | with_reducible refine ws_setI ?_ | with_reducible refine ws_for ?_ | with_reducible refine ws_par ?_ | with_reducible refine ws_frz ?_ | with_reducible refine ws_parO ?_ | with_reducible refine ws_setOwn ?_ | with_reducible refine ⟨fun _ => ?_, fun z => absurd rfl z⟩ | refine And.intro rt_nx fun _ => ?_ | refine And.intro bk_nx fun _ => ?_ | refine And.intro ct_nx fun _ => ?_ | with_reducible refine w_c2 ?_ | with_reducible refine w_c1 ?_ | with_reducible refine w_cA ?_ | with_reducible refine w_cons ?_ | with_reducible refine w_nil ?_ | with_reducible refine w_c ?_ | with_reducible refine w_call ?_ | with_reducible refine w_it ?_ | with_reducible refine w_rng1 ?_ | with_reducible refine w_rng2 ?_ | with_reducible refine w_m0 ?_ | with_reducible refine w_m1 ?_ | with_reducible refine w_sl ?_ | with_reducible refine w_part ?_ | with_reducible refine w_noP ?_ | with_reducible refine w_b ?_ | with_reducible refine w_notB ?_ | with_reducible refine w_if ?_ | with_reducible refine w_chain ?_ | with_reducible refine w_zip ?_ | with_reducible refine w_enum ?_ | with_reducible refine wg_add ?_ | with_reducible refine wg_sub ?_ | with_reducible refine wg_neg ?_ | with_reducible refine wg_lt ?_ | with_reducible refine wg_le ?_ | with_reducible refine wg_gt ?_ | with_reducible refine wg_ge ?_ | with_reducible refine wg_not ?_ | with_reducible refine wg_lenL ?_ | with_reducible refine wg_lenT ?_ | with_reducible refine wg_lenC ?_ | with_reducible refine wg_int ?_ | with_reducible refine wg_intB ?_ | with_reducible refine wg_abs ?_ | with_reducible refine wg_max2 ?_ | with_reducible refine wg_min2 ?_ | with_reducible refine wg_reprB ?_ | with_reducible refine wg_itL ?_ | with_reducible refine wg_itT ?_ | with_reducible refine wg_itC ?_ | with_reducible refine wg_itS ?_ | with_reducible refine wg_slL ?_ | with_reducible refine wg_slT ?_ | with_reducible refine wg_tupleL ?_ | with_reducible refine wg_tupleT ?_ | with_reducible refine wg_listL ?_ | with_reducible refine wg_listT ?_ | with_reducible refine wg_revL ?_ | with_reducible refine wg_revT ?_ | with_reducible refine wg_zipT ?_ | with_reducible refine wg_allM ?_ | with_reducible refine wg_anyM ?_ | with_reducible refine w_var (by with_unfolding_all rfl) ?_ | with_reducible refine wg_mul (Or.inr (by decide)) ?_ | with_reducible refine wg_mul (Or.inl (by decide)) ?_ | with_reducible refine wg_mod (by decide +kernel) ?_ | with_reducible refine wg_fdiv (by decide) ?_ | with_reducible refine wg_pow (by decide +kernel) ?_ | with_reducible refine wg_tup (by simp; done) ?_ | with_reducible refine wg_lst (by simp; done) ?_ | with_reducible refine w_dieSet (by decide) ?_ | with_reducible refine w_dieAt (by decide) (fun _ => ?_) | refine ⟨_, rfl, ?_⟩ | refine ⟨rfl, ?_⟩ | with_reducible refine wg_mkP ?_ | with_reducible refine wg_mkI ?_ | with_reducible refine wg_ixL (by rfl) ?_ | with_reducible refine wg_fld (by decide +kernel) (by rfl) ?_ | refine ⟨_, _, rfl, ?_⟩))
  refine wg_ixL (d := d5) (by kernel_rfl) ?_
  (repeat (first | with_reducible refine ws_seq ?_ | with_reducible refine ws_asg ?_ | with_reducible refine ws_ret ?_ | with_reducible refine ws_if ?_ | with_reducible refine ws_next ?_ | with_reducible refine ws_retN ?_ | with_reducible refine ws_brk ?_ | with_reducible refine ws_cont ?_ | with_reducible refine ws_drop ?_ | with_reducible refine ws_setI ?_ | with_reducible refine ws_for ?_ | with_reducible refine ws_par ?_ | with_reducible refine ws_frz ?_ | with_reducible refine ws_parO ?_ | with_reducible refine ws_setOwn ?_ | with_reducible refine ⟨fun _ => ?_, fun z => absurd rfl z⟩ | refine And.intro rt_nx fun _ => ?_ | refine And.intro bk_nx fun _ => ?_ | refine And.intro ct_nx fun _ => ?_ | with_reducible refine w_c2 ?_ | with_reducible refine w_c1 ?_ | with_reducible refine w_cA ?_ | with_reducible refine w_cons ?_ | with_reducible refine w_nil ?_ | with_reducible refine w_c ?_ | with_reducible refine w_call ?_ | with_reducible refine w_it ?_ | with_reducible refine w_rng1 ?_ | with_reducible refine w_rng2 ?_ | with_reducible refine w_m0 ?_ | with_reducible refine w_m1 ?_ | with_reducible refine w_sl ?_ | with_reducible refine w_part ?_ | with_reducible refine w_noP ?_ | with_reducible refine w_b ?_ | with_reducible refine w_notB ?_ | with_reducible refine w_if ?_ | with_reducible refine w_chain ?_ | with_reducible refine w_zip ?_ | with_reducible refine w_enum ?_ | with_reducible refine wg_add ?_ | with_reducible refine wg_sub ?_ | with_reducible refine wg_neg ?_ | with_reducible refine wg_lt ?_ | with_reducible refine wg_le ?_ | with_reducible refine wg_gt ?_ | with_reducible refine wg_ge ?_ | with_reducible refine wg_not ?_ | with_reducible refine wg_lenL ?_ | with_reducible refine wg_lenT ?_ | with_reducible refine wg_lenC ?_ | with_reducible refine wg_int ?_ | with_reducible refine wg_intB ?_ | with_reducible refine wg_abs ?_ | with_reducible refine wg_max2 ?_ | with_reducible refine wg_min2 ?_ | with_reducible refine wg_reprB ?_ | with_reducible refine wg_itL ?_ | with_reducible refine wg_itT ?_ | with_reducible refine wg_itC ?_ | with_reducible refine wg_itS ?_ | with_reducible refine wg_slL ?_ | with_reducible refine wg_slT ?_ | with_reducible refine wg_tupleL ?_ | with_reducible refine wg_tupleT ?_ | with_reducible refine wg_listL ?_ | with_reducible refine wg_listT ?_ | with_reducible refine wg_revL ?_ | with_reducible refine wg_revT ?_ | with_reducible refine wg_zipT ?_ | with_reducible refine wg_allM ?_ | with_reducible refine wg_anyM ?_ | with_reducible refine w_var (by with_unfolding_all rfl) ?_ | with_reducible refine wg_mul (Or.inr (by decide)) ?_ | with_reducible refine wg_mul (Or.inl (by decide)) ?_ | with_reducible refine wg_mod (by decide +kernel) ?_ | with_reducible refine wg_fdiv (by decide) ?_ | with_reducible refine wg_pow (by decide +kernel) ?_ | with_reducible refine wg_tup (by simp; done) ?_ | with_reducible refine wg_lst (by simp; done) ?_ | with_reducible refine w_dieSet (by decide) ?_ | with_reducible refine w_dieAt (by decide) (fun _ => ?_) | refine ⟨_, rfl, ?_⟩ | refine ⟨rfl, ?_⟩ | with_reducible refine wg_mkP ?_ | with_reducible refine wg_mkI ?_ | with_reducible refine wg_ixL (by rfl) ?_ | with_reducible refine wg_fld (by decide +kernel) (by rfl) ?_ | refine ⟨_, _, rfl, ?_⟩))
  refine wg_ixL (d := d6) (by kernel_rfl) ?_
  (repeat (first | with_reducible refine ws_seq ?_ | with_reducible refine ws_asg ?_ | with_reducible refine ws_ret ?_ | with_reducible refine ws_if ?_ | with_reducible refine ws_next ?_ | with_reducible refine ws_retN ?_ | with_reducible refine ws_brk ?_ | with_reducible refine ws_cont ?_ | with_reducible refine ws_drop ?_ | with_reducible refine ws_setI ?_ | with_reducible refine ws_for ?_ | with_reducible refine ws_par ?_ | with_reducible refine ws_frz ?_ | with_reducible refine ws_parO ?_ | with_reducible refine ws_setOwn ?_ | with_reducible refine ⟨fun _ => ?_, fun z => absurd rfl z⟩ | refine And.intro rt_nx fun _ => ?_ | refine And.intro bk_nx fun _ => ?_ | refine And.intro ct_nx fun _ => ?_ | with_reducible refine w_c2 ?_ | with_reducible refine w_c1 ?_ | with_reducible refine w_cA ?_ | with_reducible refine w_cons ?_ | with_reducible refine w_nil ?_ | with_reducible refine w_c ?_ | with_reducible refine w_call ?_ | with_reducible refine w_it ?_ | with_reducible refine w_rng1 ?_ | with_reducible refine w_rng2 ?_ | with_reducible refine w_m0 ?_ | with_reducible refine w_m1 ?_ | with_reducible refine w_sl ?_ | with_reducible refine w_part ?_ | with_reducible refine w_noP ?_ | with_reducible refine w_b ?_ | with_reducible refine w_notB ?_ | with_reducible refine w_if ?_ | with_reducible refine w_chain ?_ | with_reducible refine w_zip ?_ | with_reducible refine w_enum ?_ | with_reducible refine wg_add ?_ | with_reducible refine wg_sub ?_ | with_reducible refine wg_neg ?_ | with_reducible refine wg_lt ?_ | with_reducible refine wg_le ?_ | with_reducible refine wg_gt ?_ | with_reducible refine wg_ge ?_ | with_reducible refine wg_not ?_ | with_reducible refine wg_lenL ?_ | with_reducible refine wg_lenT ?_ | with_reducible refine wg_lenC ?_ | with_reducible refine wg_int ?_ | with_reducible refine wg_intB ?_ | with_reducible refine wg_abs ?_ | with_reducible refine wg_max2 ?_ | with_reducible refine wg_min2 ?_ | with_reducible refine wg_reprB ?_ | with_reducible refine wg_itL ?_ | with_reducible refine wg_itT ?_ | with_reducible refine wg_itC ?_ | with_reducible refine wg_itS ?_ | with_reducible refine wg_slL ?_ | with_reducible refine wg_slT ?_ | with_reducible refine wg_tupleL ?_ | with_reducible refine wg_tupleT ?_ | with_reducible refine wg_listL ?_ | with_reducible refine wg_listT ?_ | with_reducible refine wg_revL ?_ | with_reducible refine wg_revT ?_ | with_reducible refine wg_zipT ?_ | with_reducible refine wg_allM ?_ | with_reducible refine wg_anyM ?_ | with_reducible refine w_var (by with_unfolding_all rfl) ?_ | with_reducible refine wg_mul (Or.inr (by decide)) ?_ | with_reducible refine wg_mul (Or.inl (by decide)) ?_ | with_reducible refine wg_mod (by decide +kernel) ?_ | with_reducible refine wg_fdiv (by decide) ?_ | with_reducible refine wg_pow (by decide +kernel) ?_ | with_reducible refine wg_tup (by simp; done) ?_ | with_reducible refine wg_lst (by simp; done) ?_ | with_reducible refine w_dieSet (by decide) ?_ | with_reducible refine w_dieAt (by decide) (fun _ => ?_) | refine ⟨_, rfl, ?_⟩ | refine ⟨rfl, ?_⟩ | with_reducible refine wg_mkP ?_ | with_reducible refine wg_mkI ?_ | with_reducible refine wg_ixL (by rfl) ?_ | with_reducible refine wg_fld (by decide +kernel) (by rfl) ?_ | refine ⟨_, _, rfl, ?_⟩))
  refine wg_fld (d := d0) (by decide +kernel) (by kernel_rfl) ?_
  (repeat (first | with_reducible refine ws_seq ?_ | with_reducible refine ws_asg ?_ | with_reducible refine ws_ret ?_ | with_reducible refine ws_if ?_ | with_reducible refine ws_next ?_ | with_reducible refine ws_retN ?_ | with_reducible refine ws_brk ?_ | with_reducible refine ws_cont ?_ | with_reducible refine ws_drop ?_ | with_reducible refine ws_setI ?_ | with_reducible refine ws_for ?_ | with_reducible refine ws_par ?_ | with_reducible refine ws_frz ?_ | with_reducible refine ws_parO ?_ | with_reducible refine ws_setOwn ?_ | with_reducible refine ⟨fun _ => ?_, fun z => absurd rfl z⟩ | refine And.intro rt_nx fun _ => ?_ | refine And.intro bk_nx fun _ => ?_ | refine And.intro ct_nx fun _ => ?_ | with_reducible refine w_c2 ?_ | with_reducible refine w_c1 ?_ | with_reducible refine w_cA ?_ | with_reducible refine w_cons ?_ | with_reducible refine w_nil ?_ | with_reducible refine w_c ?_ | with_reducible refine w_call ?_ | with_reducible refine w_it ?_ | with_reducible refine w_rng1 ?_ | with_reducible refine w_rng2 ?_ | with_reducible refine w_m0 ?_ | with_reducible refine w_m1 ?_ | with_reducible refine w_sl ?_ | with_reducible refine w_part ?_ | with_reducible refine w_noP ?_ | with_reducible refine w_b ?_ | with_reducible refine w_notB ?_ | with_reducible refine w_if ?_ | with_reducible refine w_chain ?_ | with_reducible refine w_zip ?_ | with_reducible refine w_enum ?_ | with_reducible refine wg_add ?_ | with_reducible refine wg_sub ?_ | with_reducible refine wg_neg ?_ | with_reducible refine wg_lt ?_ | with_reducible refine wg_le ?_ | with_reducible refine wg_gt ?_ | with_reducible refine wg_ge ?_ | with_reducible refine wg_not ?_ | with_reducible refine wg_lenL ?_ | with_reducible refine wg_lenT ?_ | with_reducible refine wg_lenC ?_ | with_reducible refine wg_int ?_ | with_reducible refine wg_intB ?_ | with_reducible refine wg_abs ?_ | with_reducible refine wg_max2 ?_ | with_reducible refine wg_min2 ?_ | with_reducible refine wg_reprB ?_ | with_reducible refine wg_itL ?_ | with_reducible refine wg_itT ?_ | with_reducible refine wg_itC ?_ | with_reducible refine wg_itS ?_ | with_reducible refine wg_slL ?_ | with_reducible refine wg_slT ?_ | with_reducible refine wg_tupleL ?_ | with_reducible refine wg_tupleT ?_ | with_reducible refine wg_listL ?_ | with_reducible refine wg_listT ?_ | with_reducible refine wg_revL ?_ | with_reducible refine wg_revT ?_ | with_reducible refine wg_zipT ?_ | with_reducible refine wg_allM ?_ | with_reducible refine wg_anyM ?_ | with_reducible refine w_var (by with_unfolding_all rfl) ?_ | with_reducible refine wg_mul (Or.inr (by decide)) ?_ | with_reducible refine wg_mul (Or.inl (by decide)) ?_ | with_reducible refine wg_mod (by decide +kernel) ?_ | with_reducible refine wg_fdiv (by decide) ?_ | with_reducible refine wg_pow (by decide +kernel) ?_ | with_reducible refine wg_tup (by simp; done) ?_ | with_reducible refine wg_lst (by simp; done) ?_ | with_reducible refine w_dieSet (by decide) ?_ | with_reducible refine w_dieAt (by decide) (fun _ => ?_) | refine ⟨_, rfl, ?_⟩ | refine ⟨rfl, ?_⟩ | with_reducible refine wg_mkP ?_ | with_reducible refine wg_mkI ?_ | with_reducible refine wg_ixL (by rfl) ?_ | with_reducible refine wg_fld (by decide +kernel) (by rfl) ?_ | refine ⟨_, _, rfl, ?_⟩))
  refine wg_fld (d := d1) (by decide +kernel) (by kernel_rfl) ?_
  (repeat (first | with_reducible refine ws_seq ?_ | with_reducible refine ws_asg ?_ | with_reducible refine ws_ret ?_ | with_reducible refine ws_if ?_ | with_reducible refine ws_next ?_ | with_reducible refine ws_retN ?_ | with_reducible refine ws_brk ?_ | with_reducible refine ws_cont ?_ | with_reducible refine ws_drop ?_ | with_reducible refine ws_setI ?_ | with_reducible refine ws_for ?_ | with_reducible refine ws_par ?_ | with_reducible refine ws_frz ?_ | with_reducible refine ws_parO ?_ | with_reducible refine ws_setOwn ?_ | with_reducible refine ⟨fun _ => ?_, fun z => absurd rfl z⟩ | refine And.intro rt_nx fun _ => ?_ | refine And.intro bk_nx fun _ => ?_ | refine And.intro ct_nx fun _ => ?_ | with_reducible refine w_c2 ?_ | with_reducible refine w_c1 ?_ | with_reducible refine w_cA ?_ | with_reducible refine w_cons ?_ | with_reducible refine w_nil ?_ | with_reducible refine w_c ?_ | with_reducible refine w_call ?_ | with_reducible refine w_it ?_ | with_reducible refine w_rng1 ?_ | with_reducible refine w_rng2 ?_ | with_reducible refine w_m0 ?_ | with_reducible refine w_m1 ?_ | with_reducible refine w_sl ?_ | with_reducible refine w_part ?_ | with_reducible refine w_noP ?_ | with_reducible refine w_b ?_ | with_reducible refine w_notB ?_ | with_reducible refine w_if ?_ | with_reducible refine w_chain ?_ | with_reducible refine w_zip ?_ | with_reducible refine w_enum ?_ | with_reducible refine wg_add ?_ | with_reducible refine wg_sub ?_ | with_reducible refine wg_neg ?_ | with_reducible refine wg_lt ?_ | with_reducible refine wg_le ?_ | with_reducible refine wg_gt ?_ | with_reducible refine wg_ge ?_ | with_reducible refine wg_not ?_ | with_reducible refine wg_lenL ?_ | with_reducible refine wg_lenT ?_ | with_reducible refine wg_lenC ?_ | with_reducible refine wg_int ?_ | with_reducible refine wg_intB ?_ | with_reducible refine wg_abs ?_ | with_reducible refine wg_max2 ?_ | with_reducible refine wg_min2 ?_ | with_reducible refine wg_reprB ?_ | with_reducible refine wg_itL ?_ | with_reducible refine wg_itT ?_ | with_reducible refine wg_itC ?_ | with_reducible refine wg_itS ?_ | with_reducible refine wg_slL ?_ | with_reducible refine wg_slT ?_ | with_reducible refine wg_tupleL ?_ | with_reducible refine wg_tupleT ?_ | with_reducible refine wg_listL ?_ | with_reducible refine wg_listT ?_ | with_reducible refine wg_revL ?_ | with_reducible refine wg_revT ?_ | with_reducible refine wg_zipT ?_ | with_reducible refine wg_allM ?_ | with_reducible refine wg_anyM ?_ | with_reducible refine w_var (by with_unfolding_all rfl) ?_ | with_reducible refine wg_mul (Or.inr (by decide)) ?_ | with_reducible refine wg_mul (Or.inl (by decide)) ?_ | with_reducible refine wg_mod (by decide +kernel) ?_ | with_reducible refine wg_fdiv (by decide) ?_ | with_reducible refine wg_pow (by decide +kernel) ?_ | with_reducible refine wg_tup (by simp; done) ?_ | with_reducible refine wg_lst (by simp; done) ?_ | with_reducible refine w_dieSet (by decide) ?_ | with_reducible refine w_dieAt (by decide) (fun _ => ?_) | refine ⟨_, rfl, ?_⟩ | refine ⟨rfl, ?_⟩ | with_reducible refine wg_mkP ?_ | with_reducible refine wg_mkI ?_ | with_reducible refine wg_ixL (by rfl) ?_ | with_reducible refine wg_fld (by decide +kernel) (by rfl) ?_ | refine ⟨_, _, rfl, ?_⟩))
  refine wg_fld (d := d2) (by decide +kernel) (by kernel_rfl) ?_
  (repeat (first | with_reducible refine ws_seq ?_ | with_reducible refine ws_asg ?_ | with_reducible refine ws_ret ?_ | with_reducible refine ws_if ?_ | with_reducible refine ws_next ?_ | with_reducible refine ws_retN ?_ | with_reducible refine ws_brk ?_ | with_reducible refine ws_cont ?_ | with_reducible refine ws_drop ?_ | with_reducible refine ws_setI ?_ | with_reducible refine ws_for ?_ | with_reducible refine ws_par ?_ | with_reducible refine ws_frz ?_ | with_reducible refine ws_parO ?_ | with_reducible refine ws_setOwn ?_ | with_reducible refine ⟨fun _ => ?_, fun z => absurd rfl z⟩ | refine And.intro rt_nx fun _ => ?_ | refine And.intro bk_nx fun _ => ?_ | refine And.intro ct_nx fun _ => ?_ | with_reducible refine w_c2 ?_ | with_reducible refine w_c1 ?_ | with_reducible refine w_cA ?_ | with_reducible refine w_cons ?_ | with_reducible refine w_nil ?_ | with_reducible refine w_c ?_ | with_reducible refine w_call ?_ | with_reducible refine w_it ?_ | with_reducible refine w_rng1 ?_ | with_reducible refine w_rng2 ?_ | with_reducible refine w_m0 ?_ | with_reducible refine w_m1 ?_ | with_reducible refine w_sl ?_ | with_reducible refine w_part ?_ | with_reducible refine w_noP ?_ | with_reducible refine w_b ?_ | with_reducible refine w_notB ?_ | with_reducible refine w_if ?_ | with_reducible refine w_chain ?_ | with_reducible refine w_zip ?_ | with_reducible refine w_enum ?_ | with_reducible refine wg_add ?_ | with_reducible refine wg_sub ?_ | with_reducible refine wg_neg ?_ | with_reducible refine wg_lt ?_ | with_reducible refine wg_le ?_ | with_reducible refine wg_gt ?_ | with_reducible refine wg_ge ?_ | with_reducible refine wg_not ?_ | with_reducible refine wg_lenL ?_ | with_reducible refine wg_lenT ?_ | with_reducible refine wg_lenC ?_ | with_reducible refine wg_int ?_ | with_reducible refine wg_intB ?_ | with_reducible refine wg_abs ?_ | with_reducible refine wg_max2 ?_ | with_reducible refine wg_min2 ?_ | with_reducible refine wg_reprB ?_ | with_reducible refine wg_itL ?_ | with_reducible refine wg_itT ?_ | with_reducible refine wg_itC ?_ | with_reducible refine wg_itS ?_ | with_reducible refine wg_slL ?_ | with_reducible refine wg_slT ?_ | with_reducible refine wg_tupleL ?_ | with_reducible refine wg_tupleT ?_ | with_reducible refine wg_listL ?_ | with_reducible refine wg_listT ?_ | with_reducible refine wg_revL ?_ | with_reducible refine wg_revT ?_ | with_reducible refine wg_zipT ?_ | with_reducible refine wg_allM ?_ | with_reducible refine wg_anyM ?_ | with_reducible refine w_var (by with_unfolding_all rfl) ?_ | with_reducible refine wg_mul (Or.inr (by decide)) ?_ | with_reducible refine wg_mul (Or.inl (by decide)) ?_ | with_reducible refine wg_mod (by decide +kernel) ?_ | with_reducible refine wg_fdiv (by decide) ?_ | with_reducible refine wg_pow (by decide +kernel) ?_ | with_reducible refine wg_tup (by simp; done) ?_ | with_reducible refine wg_lst (by simp; done) ?_ | with_reducible refine w_dieSet (by decide) ?_ | with_reducible refine w_dieAt (by decide) (fun _ => ?_) | refine ⟨_, rfl, ?_⟩ | refine ⟨rfl, ?_⟩ | with_reducible refine wg_mkP ?_ | with_reducible refine wg_mkI ?_ | with_reducible refine wg_ixL (by rfl) ?_ | with_reducible refine wg_fld (by decide +kernel) (by rfl) ?_ | refine ⟨_, _, rfl, ?_⟩))
  refine wg_fld (d := d3) (by decide +kernel) (by kernel_rfl) ?_
  (repeat (first | with_reducible refine ws_seq ?_ | with_reducible refine ws_asg ?_ | with_reducible refine ws_ret ?_ | with_reducible refine ws_if ?_ | with_reducible refine ws_next ?_ | with_reducible refine ws_retN ?_ | with_reducible refine ws_brk ?_ | with_reducible refine ws_cont ?_ | with_reducible refine ws_drop ?_ | with_reducible refine ws_setI ?_ | with_reducible refine ws_for ?_ | with_reducible refine ws_par ?_ | with_reducible refine ws_frz ?_ | with_reducible refine ws_parO ?_ | with_reducible refine ws_setOwn ?_ | with_reducible refine ⟨fun _ => ?_, fun z => absurd rfl z⟩ | refine And.intro rt_nx fun _ => ?_ | refine And.intro bk_nx fun _ => ?_ | refine And.intro ct_nx fun _ => ?_ | with_reducible refine w_c2 ?_ | with_reducible refine w_c1 ?_ | with_reducible refine w_cA ?_ | with_reducible refine w_cons ?_ | with_reducible refine w_nil ?_ | with_reducible refine w_c ?_ | with_reducible refine w_call ?_ | with_reducible refine w_it ?_ | with_reducible refine w_rng1 ?_ | with_reducible refine w_rng2 ?_ | with_reducible refine w_m0 ?_ | with_reducible refine w_m1 ?_ | with_reducible refine w_sl ?_ | with_reducible refine w_part ?_ | with_reducible refine w_noP ?_ | with_reducible refine w_b ?_ | with_reducible refine w_notB ?_ | with_reducible refine w_if ?_ | with_reducible refine w_chain ?_ | with_reducible refine w_zip ?_ | with_reducible refine w_enum ?_ | with_reducible refine wg_add ?_ | with_reducible refine wg_sub ?_ | with_reducible refine wg_neg ?_ | with_reducible refine wg_lt ?_ | with_reducible refine wg_le ?_ | with_reducible refine wg_gt ?_ | with_reducible refine wg_ge ?_ | with_reducible refine wg_not ?_ | with_reducible refine wg_lenL ?_ | with_reducible refine wg_lenT ?_ | with_reducible refine wg_lenC ?_ | with_reducible refine wg_int ?_ | with_reducible refine wg_intB ?_ | with_reducible refine wg_abs ?_ | with_reducible refine wg_max2 ?_ | with_reducible refine wg_min2 ?_ | with_reducible refine wg_reprB ?_ | with_reducible refine wg_itL ?_ | with_reducible refine wg_itT ?_ | with_reducible refine wg_itC ?_ | with_reducible refine wg_itS ?_ | with_reducible refine wg_slL ?_ | with_reducible refine wg_slT ?_ | with_reducible refine wg_tupleL ?_ | with_reducible refine wg_tupleT ?_ | with_reducible refine wg_listL ?_ | with_reducible refine wg_listT ?_ | with_reducible refine wg_revL ?_ | with_reducible refine wg_revT ?_ | with_reducible refine wg_zipT ?_ | with_reducible refine wg_allM ?_ | with_reducible refine wg_anyM ?_ | with_reducible refine w_var (by with_unfolding_all rfl) ?_ | with_reducible refine wg_mul (Or.inr (by decide)) ?_ | with_reducible refine wg_mul (Or.inl (by decide)) ?_ | with_reducible refine wg_mod (by decide +kernel) ?_ | with_reducible refine wg_fdiv (by decide) ?_ | with_reducible refine wg_pow (by decide +kernel) ?_ | with_reducible refine wg_tup (by simp; done) ?_ | with_reducible refine wg_lst (by simp; done) ?_ | with_reducible refine w_dieSet (by decide) ?_ | with_reducible refine w_dieAt (by decide) (fun _ => ?_) | refine ⟨_, rfl, ?_⟩ | refine ⟨rfl, ?_⟩ | with_reducible refine wg_mkP ?_ | with_reducible refine wg_mkI ?_ | with_reducible refine wg_ixL (by rfl) ?_ | with_reducible refine wg_fld (by decide +kernel) (by rfl) ?_ | refine ⟨_, _, rfl, ?_⟩))
  refine wg_fld (d := d4) (by decide +kernel) (by kernel_rfl) ?_
  (repeat (first | with_reducible refine ws_seq ?_ | with_reducible refine ws_asg ?_ | with_reducible refine ws_ret ?_ | with_reducible refine ws_if ?_ | with_reducible refine ws_next ?_ | with_reducible refine ws_retN ?_ | with_reducible refine ws_brk ?_ | with_reducible refine ws_cont ?_ | with_reducible refine ws_drop ?_ | with_reducible refine ws_setI ?_ | with_reducible refine ws_for ?_ | with_reducible refine ws_par ?_ | with_reducible refine ws_frz ?_ | with_reducible refine ws_parO ?_ | with_reducible refine ws_setOwn ?_ | with_reducible refine ⟨fun _ => ?_, fun z => absurd rfl z⟩ | refine And.intro rt_nx fun _ => ?_ | refine And.intro bk_nx fun _ => ?_ | refine And.intro ct_nx fun _ => ?_ | with_reducible refine w_c2 ?_ | with_reducible refine w_c1 ?_ | with_reducible refine w_cA ?_ | with_reducible refine w_cons ?_ | with_reducible refine w_nil ?_ | with_reducible refine w_c ?_ | with_reducible refine w_call ?_ | with_reducible refine w_it ?_ | with_reducible refine w_rng1 ?_ | with_reducible refine w_rng2 ?_ | with_reducible refine w_m0 ?_ | with_reducible refine w_m1 ?_ | with_reducible refine w_sl ?_ | with_reducible refine w_part ?_ | with_reducible refine w_noP ?_ | with_reducible refine w_b ?_ | with_reducible refine w_notB ?_ | with_reducible refine w_if ?_ | with_reducible refine w_chain ?_ | with_reducible refine w_zip ?_ | with_reducible refine w_enum ?_ | with_reducible refine wg_add ?_ | with_reducible refine wg_sub ?_ | with_reducible refine wg_neg ?_ | with_reducible refine wg_lt ?_ | with_reducible refine wg_le ?_ | with_reducible refine wg_gt ?_ | with_reducible refine wg_ge ?_ | with_reducible refine wg_not ?_ | with_reducible refine wg_lenL ?_ | with_reducible refine wg_lenT ?_ | with_reducible refine wg_lenC ?_ | with_reducible refine wg_int ?_ | with_reducible refine wg_intB ?_ | with_reducible refine wg_abs ?_ | with_reducible refine wg_max2 ?_ | with_reducible refine wg_min2 ?_ | with_reducible refine wg_reprB ?_ | with_reducible refine wg_itL ?_ | with_reducible refine wg_itT ?_ | with_reducible refine wg_itC ?_ | with_reducible refine wg_itS ?_ | with_reducible refine wg_slL ?_ | with_reducible refine wg_slT ?_ | with_reducible refine wg_tupleL ?_ | with_reducible refine wg_tupleT ?_ | with_reducible refine wg_listL ?_ | with_reducible refine wg_listT ?_ | with_reducible refine wg_revL ?_ | with_reducible refine wg_revT ?_ | with_reducible refine wg_zipT ?_ | with_reducible refine wg_allM ?_ | with_reducible refine wg_anyM ?_ | with_reducible refine w_var (by with_unfolding_all rfl) ?_ | with_reducible refine wg_mul (Or.inr (by decide)) ?_ | with_reducible refine wg_mul (Or.inl (by decide)) ?_ | with_reducible refine wg_mod (by decide +kernel) ?_ | with_reducible refine wg_fdiv (by decide) ?_ | with_reducible refine wg_pow (by decide +kernel) ?_ | with_reducible refine wg_tup (by simp; done) ?_ | with_reducible refine wg_lst (by simp; done) ?_ | with_reducible refine w_dieSet (by decide) ?_ | with_reducible refine w_dieAt (by decide) (fun _ => ?_) | refine ⟨_, rfl, ?_⟩ | refine ⟨rfl, ?_⟩ | with_reducible refine wg_mkP ?_ | with_reducible refine wg_mkI ?_ | with_reducible refine wg_ixL (by rfl) ?_ | with_reducible refine wg_fld (by decide +kernel) (by rfl) ?_ | refine ⟨_, _, rfl, ?_⟩))
  refine wg_fld (d := d5) (by decide +kernel) (by kernel_rfl) ?_
  (repeat (first | with_reducible refine ws_seq ?_ | with_reducible refine ws_asg ?_ | with_reducible refine ws_ret ?_ | with_reducible refine ws_if ?_ | with_reducible refine ws_next ?_ | with_reducible refine ws_retN ?_ | with_reducible refine ws_brk ?_ | with_reducible refine ws_cont ?_ | with_reducible refine ws_drop ?_ | with_reducible refine ws_setI ?_ | with_reducible refine ws_for ?_ | with_reducible refine ws_par ?_ | with_reducible refine ws_frz ?_ | with_reducible refine ws_parO ?_ | with_reducible refine ws_setOwn ?_ | with_reducible refine ⟨fun _ => ?_, fun z => absurd rfl z⟩ | refine And.intro rt_nx fun _ => ?_ | refine And.intro bk_nx fun _ => ?_ | refine And.intro ct_nx fun _ => ?_ | with_reducible refine w_c2 ?_ | with_reducible refine w_c1 ?_ | with_reducible refine w_cA ?_ | with_reducible refine w_cons ?_ | with_reducible refine w_nil ?_ | with_reducible refine w_c ?_ | with_reducible refine w_call ?_ | with_reducible refine w_it ?_ | with_reducible refine w_rng1 ?_ | with_reducible refine w_rng2 ?_ | with_reducible refine w_m0 ?_ | with_reducible refine w_m1 ?_ | with_reducible refine w_sl ?_ | with_reducible refine w_part ?_ | with_reducible refine w_noP ?_ | with_reducible refine w_b ?_ | with_reducible refine w_notB ?_ | with_reducible refine w_if ?_ | with_reducible refine w_chain ?_ | with_reducible refine w_zip ?_ | with_reducible refine w_enum ?_ | with_reducible refine wg_add ?_ | with_reducible refine wg_sub ?_ | with_reducible refine wg_neg ?_ | with_reducible refine wg_lt ?_ | with_reducible refine wg_le ?_ | with_reducible refine wg_gt ?_ | with_reducible refine wg_ge ?_ | with_reducible refine wg_not ?_ | with_reducible refine wg_lenL ?_ | with_reducible refine wg_lenT ?_ | with_reducible refine wg_lenC ?_ | with_reducible refine wg_int ?_ | with_reducible refine wg_intB ?_ | with_reducible refine wg_abs ?_ | with_reducible refine wg_max2 ?_ | with_reducible refine wg_min2 ?_ | with_reducible refine wg_reprB ?_ | with_reducible refine wg_itL ?_ | with_reducible refine wg_itT ?_ | with_reducible refine wg_itC ?_ | with_reducible refine wg_itS ?_ | with_reducible refine wg_slL ?_ | with_reducible refine wg_slT ?_ | with_reducible refine wg_tupleL ?_ | with_reducible refine wg_tupleT ?_ | with_reducible refine wg_listL ?_ | with_reducible refine wg_listT ?_ | with_reducible refine wg_revL ?_ | with_reducible refine wg_revT ?_ | with_reducible refine wg_zipT ?_ | with_reducible refine wg_allM ?_ | with_reducible refine wg_anyM ?_ | with_reducible refine w_var (by with_unfolding_all rfl) ?_ | with_reducible refine wg_mul (Or.inr (by decide)) ?_ | with_reducible refine wg_mul (Or.inl (by decide)) ?_ | with_reducible refine wg_mod (by decide +kernel) ?_ | with_reducible refine wg_fdiv (by decide) ?_ | with_reducible refine wg_pow (by decide +kernel) ?_ | with_reducible refine wg_tup (by simp; done) ?_ | with_reducible refine wg_lst (by simp; done) ?_ | with_reducible refine w_dieSet (by decide) ?_ | with_reducible refine w_dieAt (by decide) (fun _ => ?_) | refine ⟨_, rfl, ?_⟩ | refine ⟨rfl, ?_⟩ | with_reducible refine wg_mkP ?_ | with_reducible refine wg_mkI ?_ | with_reducible refine wg_ixL (by rfl) ?_ | with_reducible refine wg_fld (by decide +kernel) (by rfl) ?_ | refine ⟨_, _, rfl, ?_⟩))
  refine wg_fld (d := d6) (by decide +kernel) (by kernel_rfl) ?_
  (repeat (first | with_reducible refine ws_seq ?_ | with_reducible refine ws_asg ?_ | with_reducible refine ws_ret ?_ | with_reducible refine ws_if ?_ | with_reducible refine ws_next ?_ | with_reducible refine ws_retN ?_ | with_reducible refine ws_brk ?_ | with_reducible refine ws_cont ?_ | with_reducible refine ws_drop ?_ | with_reducible refine ws_setI ?_ | with_reducible refine ws_for ?_ | with_reducible refine ws_par ?_ | with_reducible refine ws_frz ?_ | with_reducible refine ws_parO ?_ | with_reducible refine ws_setOwn ?_ | with_reducible refine ⟨fun _ => ?_, fun z => absurd rfl z⟩ | refine And.intro rt_nx fun _ => ?_ | refine And.intro bk_nx fun _ => ?_ | refine And.intro ct_nx fun _ => ?_ | with_reducible refine w_c2 ?_ | with_reducible refine w_c1 ?_ | with_reducible refine w_cA ?_ | with_reducible refine w_cons ?_ | with_reducible refine w_nil ?_ | with_reducible refine w_c ?_ | with_reducible refine w_call ?_ | with_reducible refine w_it ?_ | with_reducible refine w_rng1 ?_ | with_reducible refine w_rng2 ?_ | with_reducible refine w_m0 ?_ | with_reducible refine w_m1 ?_ | with_reducible refine w_sl ?_ | with_reducible refine w_part ?_ | with_reducible refine w_noP ?_ | with_reducible refine w_b ?_ | with_reducible refine w_notB ?_ | with_reducible refine w_if ?_ | with_reducible refine w_chain ?_ | with_reducible refine w_zip ?_ | with_reducible refine w_enum ?_ | with_reducible refine wg_add ?_ | with_reducible refine wg_sub ?_ | with_reducible refine wg_neg ?_ | with_reducible refine wg_lt ?_ | with_reducible refine wg_le ?_ | with_reducible refine wg_gt ?_ | with_reducible refine wg_ge ?_ | with_reducible refine wg_not ?_ | with_reducible refine wg_lenL ?_ | with_reducible refine wg_lenT ?_ | with_reducible refine wg_lenC ?_ | with_reducible refine wg_int ?_ | with_reducible refine wg_intB ?_ | with_reducible refine wg_abs ?_ | with_reducible refine wg_max2 ?_ | with_reducible refine wg_min2 ?_ | with_reducible refine wg_reprB ?_ | with_reducible refine wg_itL ?_ | with_reducible refine wg_itT ?_ | with_reducible refine wg_itC ?_ | with_reducible refine wg_itS ?_ | with_reducible refine wg_slL ?_ | with_reducible refine wg_slT ?_ | with_reducible refine wg_tupleL ?_ | with_reducible refine wg_tupleT ?_ | with_reducible refine wg_listL ?_ | with_reducible refine wg_listT ?_ | with_reducible refine wg_revL ?_ | with_reducible refine wg_revT ?_ | with_reducible refine wg_zipT ?_ | with_reducible refine wg_allM ?_ | with_reducible refine wg_anyM ?_ | with_reducible refine w_var (by with_unfolding_all rfl) ?_ | with_reducible refine wg_mul (Or.inr (by decide)) ?_ | with_reducible refine wg_mul (Or.inl (by decide)) ?_ | with_reducible refine wg_mod (by decide +kernel) ?_ | with_reducible refine wg_fdiv (by decide) ?_ | with_reducible refine wg_pow (by decide +kernel) ?_ | with_reducible refine wg_tup (by simp; done) ?_ | with_reducible refine wg_lst (by simp; done) ?_ | with_reducible refine w_dieSet (by decide) ?_ | with_reducible refine w_dieAt (by decide) (fun _ => ?_) | refine ⟨_, rfl, ?_⟩ | refine ⟨rfl, ?_⟩ | with_reducible refine wg_mkP ?_ | with_reducible refine wg_mkI ?_ | with_reducible refine wg_ixL (by rfl) ?_ | with_reducible refine wg_fld (by decide +kernel) (by rfl) ?_ | refine ⟨_, _, rfl, ?_⟩))
  refine w_orB ?_
  (repeat (first | with_reducible refine ws_seq ?_ | with_reducible refine ws_asg ?_ | with_reducible refine ws_ret ?_ | with_reducible refine ws_if ?_ | with_reducible refine ws_next ?_ | with_reducible refine ws_retN ?_ | with_reducible refine ws_brk ?_ | with_reducible refine ws_cont ?_ | with_reducible refine ws_drop ?_ | with_reducible refine ws_setI ?_ | with_reducible refine ws_for ?_ | with_reducible refine ws_par ?_ | with_reducible refine ws_frz ?_ | with_reducible refine ws_parO ?_ | with_reducible refine ws_setOwn ?_ | with_reducible refine ⟨fun _ => ?_, fun z => absurd rfl z⟩ | refine And.intro rt_nx fun _ => ?_ | refine And.intro bk_nx fun _ => ?_ | refine And.intro ct_nx fun _ => ?_ | with_reducible refine w_c2 ?_ | with_reducible refine w_c1 ?_ | with_reducible refine w_cA ?_ | with_reducible refine w_cons ?_ | with_reducible refine w_nil ?_ | with_reducible refine w_c ?_ | with_reducible refine w_call ?_ | with_reducible refine w_it ?_ | with_reducible refine w_rng1 ?_ | with_reducible refine w_rng2 ?_ | with_reducible refine w_m0 ?_ | with_reducible refine w_m1 ?_ | with_reducible refine w_sl ?_ | with_reducible refine w_part ?_ | with_reducible refine w_noP ?_ | with_reducible refine w_b ?_ | with_reducible refine w_notB ?_ | with_reducible refine w_if ?_ | with_reducible refine w_chain ?_ | with_reducible refine w_zip ?_ | with_reducible refine w_enum ?_ | with_reducible refine wg_add ?_ | with_reducible refine wg_sub ?_ | with_reducible refine wg_neg ?_ | with_reducible refine wg_lt ?_ | with_reducible refine wg_le ?_ | with_reducible refine wg_gt ?_ | with_reducible refine wg_ge ?_ | with_reducible refine wg_not ?_ | with_reducible refine wg_lenL ?_ | with_reducible refine wg_lenT ?_ | with_reducible refine wg_lenC ?_ | with_reducible refine wg_int ?_ | with_reducible refine wg_intB ?_ | with_reducible refine wg_abs ?_ | with_reducible refine wg_max2 ?_ | with_reducible refine wg_min2 ?_ | with_reducible refine wg_reprB ?_ | with_reducible refine wg_itL ?_ | with_reducible refine wg_itT ?_ | with_reducible refine wg_itC ?_ | with_reducible refine wg_itS ?_ | with_reducible refine wg_slL ?_ | with_reducible refine wg_slT ?_ | with_reducible refine wg_tupleL ?_ | with_reducible refine wg_tupleT ?_ | with_reducible refine wg_listL ?_ | with_reducible refine wg_listT ?_ | with_reducible refine wg_revL ?_ | with_reducible refine wg_revT ?_ | with_reducible refine wg_zipT ?_ | with_reducible refine wg_allM ?_ | with_reducible refine wg_anyM ?_ | with_reducible refine w_var (by with_unfolding_all rfl) ?_ | with_reducible refine wg_mul (Or.inr (by decide)) ?_ | with_reducible refine wg_mul (Or.inl (by decide)) ?_ | with_reducible refine wg_mod (by decide +kernel) ?_ | with_reducible refine wg_fdiv (by decide) ?_ | with_reducible refine wg_pow (by decide +kernel) ?_ | with_reducible refine wg_tup (by simp; done) ?_ | with_reducible refine wg_lst (by simp; done) ?_ | with_reducible refine w_dieSet (by decide) ?_ | with_reducible refine w_dieAt (by decide) (fun _ => ?_) | refine ⟨_, rfl, ?_⟩ | refine ⟨rfl, ?_⟩ | with_reducible refine wg_mkP ?_ | with_reducible refine wg_mkI ?_ | with_reducible refine wg_ixL (by rfl) ?_ | with_reducible refine wg_fld (by decide +kernel) (by rfl) ?_ | refine ⟨_, _, rfl, ?_⟩))
  refine wg_reprS ep ok ?_
  (repeat (first | with_reducible refine ws_seq ?_ | with_reducible refine ws_asg ?_ | with_reducible refine ws_ret ?_ | with_reducible refine ws_if ?_ | with_reducible refine ws_next ?_ | with_reducible refine ws_retN ?_ | with_reducible refine ws_brk ?_ | with_reducible refine ws_cont ?_ | with_reducible refine ws_drop ?_ | with_reducible refine ws_setI ?_ | with_reducible refine ws_for ?_ | with_reducible refine ws_par ?_ | with_reducible refine ws_frz ?_ | with_reducible refine ws_parO ?_ | with_reducible refine ws_setOwn ?_ | with_reducible refine ⟨fun _ => ?_, fun z => absurd rfl z⟩ | refine And.intro rt_nx fun _ => ?_ | refine And.intro bk_nx fun _ => ?_ | refine And.intro ct_nx fun _ => ?_ | with_reducible refine w_c2 ?_ | with_reducible refine w_c1 ?_ | with_reducible refine w_cA ?_ | with_reducible refine w_cons ?_ | with_reducible refine w_nil ?_ | with_reducible refine w_c ?_ | with_reducible refine w_call ?_ | with_reducible refine w_it ?_ | with_reducible refine w_rng1 ?_ | with_reducible refine w_rng2 ?_ | with_reducible refine w_m0 ?_ | with_reducible refine w_m1 ?_ | with_reducible refine w_sl ?_ | with_reducible refine w_part ?_ | with_reducible refine w_noP ?_ | with_reducible refine w_b ?_ | with_reducible refine w_notB ?_ | with_reducible refine w_if ?_ | with_reducible refine w_chain ?_ | with_reducible refine w_zip ?_ | with_reducible refine w_enum ?_ | with_reducible refine wg_add ?_ | with_reducible refine wg_sub ?_ | with_reducible refine wg_neg ?_ | with_reducible refine wg_lt ?_ | with_reducible refine wg_le ?_ | with_reducible refine wg_gt ?_ | with_reducible refine wg_ge ?_ | with_reducible refine wg_not ?_ | with_reducible refine wg_lenL ?_ | with_reducible refine wg_lenT ?_ | with_reducible refine wg_lenC ?_ | with_reducible refine wg_int ?_ | with_reducible refine wg_intB ?_ | with_reducible refine wg_abs ?_ | with_reducible refine wg_max2 ?_ | with_reducible refine wg_min2 ?_ | with_reducible refine wg_reprB ?_ | with_reducible refine wg_itL ?_ | with_reducible refine wg_itT ?_ | with_reducible refine wg_itC ?_ | with_reducible refine wg_itS ?_ | with_reducible refine wg_slL ?_ | with_reducible refine wg_slT ?_ | with_reducible refine wg_tupleL ?_ | with_reducible refine wg_tupleT ?_ | with_reducible refine wg_listL ?_ | with_reducible refine wg_listT ?_ | with_reducible refine wg_revL ?_ | with_reducible refine wg_revT ?_ | with_reducible refine wg_zipT ?_ | with_reducible refine wg_allM ?_ | with_reducible refine wg_anyM ?_ | with_reducible refine w_var (by with_unfolding_all rfl) ?_ | with_reducible refine wg_mul (Or.inr (by decide)) ?_ | with_reducible refine wg_mul (Or.inl (by decide)) ?_ | with_reducible refine wg_mod (by decide +kernel) ?_ | with_reducible refine wg_fdiv (by decide) ?_ | with_reducible refine wg_pow (by decide +kernel) ?_ | with_reducible refine wg_tup (by simp; done) ?_ | with_reducible refine wg_lst (by simp; done) ?_ | with_reducible refine w_dieSet (by decide) ?_ | with_reducible refine w_dieAt (by decide) (fun _ => ?_) | refine ⟨_, rfl, ?_⟩ | refine ⟨rfl, ?_⟩ | with_reducible refine wg_mkP ?_ | with_reducible refine wg_mkI ?_ | with_reducible refine wg_ixL (by rfl) ?_ | with_reducible refine wg_fld (by decide +kernel) (by rfl) ?_ | refine ⟨_, _, rfl, ?_⟩))
  refine wg_reprS ep ok ?_
  refine wg_ne (b := true) (eqD_str sok) ?_
  refine ⟨_, rfl, fun _ => ?_, fun h => (nomatch h)⟩
  (repeat (first | with_reducible refine ws_seq ?_ | with_reducible refine ws_asg ?_ | with_reducible refine ws_ret ?_ | with_reducible refine ws_if ?_ | with_reducible refine ws_next ?_ | with_reducible refine ws_retN ?_ | with_reducible refine ws_brk ?_ | with_reducible refine ws_cont ?_ | with_reducible refine ws_drop ?_ | with_reducible refine ws_setI ?_ | with_reducible refine ws_for ?_ | with_reducible refine ws_par ?_ | with_reducible refine ws_frz ?_ | with_reducible refine ws_parO ?_ | with_reducible refine ws_setOwn ?_ | with_reducible refine ⟨fun _ => ?_, fun z => absurd rfl z⟩ | refine And.intro rt_nx fun _ => ?_ | refine And.intro bk_nx fun _ => ?_ | refine And.intro ct_nx fun _ => ?_ | with_reducible refine w_c2 ?_ | with_reducible refine w_c1 ?_ | with_reducible refine w_cA ?_ | with_reducible refine w_cons ?_ | with_reducible refine w_nil ?_ | with_reducible refine w_c ?_ | with_reducible refine w_call ?_ | with_reducible refine w_it ?_ | with_reducible refine w_rng1 ?_ | with_reducible refine w_rng2 ?_ | with_reducible refine w_m0 ?_ | with_reducible refine w_m1 ?_ | with_reducible refine w_sl ?_ | with_reducible refine w_part ?_ | with_reducible refine w_noP ?_ | with_reducible refine w_b ?_ | with_reducible refine w_notB ?_ | with_reducible refine w_if ?_ | with_reducible refine w_chain ?_ | with_reducible refine w_zip ?_ | with_reducible refine w_enum ?_ | with_reducible refine wg_add ?_ | with_reducible refine wg_sub ?_ | with_reducible refine wg_neg ?_ | with_reducible refine wg_lt ?_ | with_reducible refine wg_le ?_ | with_reducible refine wg_gt ?_ | with_reducible refine wg_ge ?_ | with_reducible refine wg_not ?_ | with_reducible refine wg_lenL ?_ | with_reducible refine wg_lenT ?_ | with_reducible refine wg_lenC ?_ | with_reducible refine wg_int ?_ | with_reducible refine wg_intB ?_ | with_reducible refine wg_abs ?_ | with_reducible refine wg_max2 ?_ | with_reducible refine wg_min2 ?_ | with_reducible refine wg_reprB ?_ | with_reducible refine wg_itL ?_ | with_reducible refine wg_itT ?_ | with_reducible refine wg_itC ?_ | with_reducible refine wg_itS ?_ | with_reducible refine wg_slL ?_ | with_reducible refine wg_slT ?_ | with_reducible refine wg_tupleL ?_ | with_reducible refine wg_tupleT ?_ | with_reducible refine wg_listL ?_ | with_reducible refine wg_listT ?_ | with_reducible refine wg_revL ?_ | with_reducible refine wg_revT ?_ | with_reducible refine wg_zipT ?_ | with_reducible refine wg_allM ?_ | with_reducible refine wg_anyM ?_ | with_reducible refine w_var (by with_unfolding_all rfl) ?_ | with_reducible refine wg_mul (Or.inr (by decide)) ?_ | with_reducible refine wg_mul (Or.inl (by decide)) ?_ | with_reducible refine wg_mod (by decide +kernel) ?_ | with_reducible refine wg_fdiv (by decide) ?_ | with_reducible refine wg_pow (by decide +kernel) ?_ | with_reducible refine wg_tup (by simp; done) ?_ | with_reducible refine wg_lst (by simp; done) ?_ | with_reducible refine w_dieSet (by decide) ?_ | with_reducible refine w_dieAt (by decide) (fun _ => ?_) | refine ⟨_, rfl, ?_⟩ | refine ⟨rfl, ?_⟩ | with_reducible refine wg_mkP ?_ | with_reducible refine wg_mkI ?_ | with_reducible refine wg_ixL (by rfl) ?_ | with_reducible refine wg_fld (by decide +kernel) (by rfl) ?_ | refine ⟨_, _, rfl, ?_⟩))
  refine (w_bags (List.mem_append_right _ List.mem_cons_self)).imp (fun r hr => ?_) fun _ _ x => x
  subst hr
  (repeat (first | with_reducible refine ws_seq ?_ | with_reducible refine ws_asg ?_ | with_reducible refine ws_ret ?_ | with_reducible refine ws_if ?_ | with_reducible refine ws_next ?_ | with_reducible refine ws_retN ?_ | with_reducible refine ws_brk ?_ | with_reducible refine ws_cont ?_ | with_reducible refine ws_drop ?_ | with_reducible refine ws_setI ?_ | with_reducible refine ws_for ?_ | with_reducible refine ws_par ?_ | with_reducible refine ws_frz ?_ | with_reducible refine ws_parO ?_ | with_reducible refine ws_setOwn ?_ | with_reducible refine ⟨fun _ => ?_, fun z => absurd rfl z⟩ | refine And.intro rt_nx fun _ => ?_ | refine And.intro bk_nx fun _ => ?_ | refine And.intro ct_nx fun _ => ?_ | with_reducible refine w_c2 ?_ | with_reducible refine w_c1 ?_ | with_reducible refine w_cA ?_ | with_reducible refine w_cons ?_ | with_reducible refine w_nil ?_ | with_reducible refine w_c ?_ | with_reducible refine w_call ?_ | with_reducible refine w_it ?_ | with_reducible refine w_rng1 ?_ | with_reducible refine w_rng2 ?_ | with_reducible refine w_m0 ?_ | with_reducible refine w_m1 ?_ | with_reducible refine w_sl ?_ | with_reducible refine w_part ?_ | with_reducible refine w_noP ?_ | with_reducible refine w_b ?_ | with_reducible refine w_notB ?_ | with_reducible refine w_if ?_ | with_reducible refine w_chain ?_ | with_reducible refine w_zip ?_ | with_reducible refine w_enum ?_ | with_reducible refine wg_add ?_ | with_reducible refine wg_sub ?_ | with_reducible refine wg_neg ?_ | with_reducible refine wg_lt ?_ | with_reducible refine wg_le ?_ | with_reducible refine wg_gt ?_ | with_reducible refine wg_ge ?_ | with_reducible refine wg_not ?_ | with_reducible refine wg_lenL ?_ | with_reducible refine wg_lenT ?_ | with_reducible refine wg_lenC ?_ | with_reducible refine wg_int ?_ | with_reducible refine wg_intB ?_ | with_reducible refine wg_abs ?_ | with_reducible refine wg_max2 ?_ | with_reducible refine wg_min2 ?_ | with_reducible refine wg_reprB ?_ | with_reducible refine wg_itL ?_ | with_reducible refine wg_itT ?_ | with_reducible refine wg_itC ?_ | with_reducible refine wg_itS ?_ | with_reducible refine wg_slL ?_ | with_reducible refine wg_slT ?_ | with_reducible refine wg_tupleL ?_ | with_reducible refine wg_tupleT ?_ | with_reducible refine wg_listL ?_ | with_reducible refine wg_listT ?_ | with_reducible refine wg_revL ?_ | with_reducible refine wg_revT ?_ | with_reducible refine wg_zipT ?_ | with_reducible refine wg_allM ?_ | with_reducible refine wg_anyM ?_ | with_reducible refine w_var (by with_unfolding_all rfl) ?_ | with_reducible refine wg_mul (Or.inr (by decide)) ?_ | with_reducible refine wg_mul (Or.inl (by decide)) ?_ | with_reducible refine wg_mod (by decide +kernel) ?_ | with_reducible refine wg_fdiv (by decide) ?_ | with_reducible refine wg_pow (by decide +kernel) ?_ | with_reducible refine wg_tup (by simp; done) ?_ | with_reducible refine wg_lst (by simp; done) ?_ | with_reducible refine w_dieSet (by decide) ?_ | with_reducible refine w_dieAt (by decide) (fun _ => ?_) | refine ⟨_, rfl, ?_⟩ | refine ⟨rfl, ?_⟩ | with_reducible refine wg_mkP ?_ | with_reducible refine wg_mkI ?_ | with_reducible refine wg_ixL (by rfl) ?_ | with_reducible refine wg_fld (by decide +kernel) (by rfl) ?_ | refine ⟨_, _, rfl, ?_⟩))
  refine wg_ne (b := true) (by kernel_rfl) ?_
  refine ⟨_, rfl, fun h => (nomatch h), fun _ => ?_⟩
  (repeat (first | with_reducible refine ws_seq ?_ | with_reducible refine ws_asg ?_ | with_reducible refine ws_ret ?_ | with_reducible refine ws_if ?_ | with_reducible refine ws_next ?_ | with_reducible refine ws_retN ?_ | with_reducible refine ws_brk ?_ | with_reducible refine ws_cont ?_ | with_reducible refine ws_drop ?_ | with_reducible refine ws_setI ?_ | with_reducible refine ws_for ?_ | with_reducible refine ws_par ?_ | with_reducible refine ws_frz ?_ | with_reducible refine ws_parO ?_ | with_reducible refine ws_setOwn ?_ | with_reducible refine ⟨fun _ => ?_, fun z => absurd rfl z⟩ | refine And.intro rt_nx fun _ => ?_ | refine And.intro bk_nx fun _ => ?_ | refine And.intro ct_nx fun _ => ?_ | with_reducible refine w_c2 ?_ | with_reducible refine w_c1 ?_ | with_reducible refine w_cA ?_ | with_reducible refine w_cons ?_ | with_reducible refine w_nil ?_ | with_reducible refine w_c ?_ | with_reducible refine w_call ?_ | with_reducible refine w_it ?_ | with_reducible refine w_rng1 ?_ | with_reducible refine w_rng2 ?_ | with_reducible refine w_m0 ?_ | with_reducible refine w_m1 ?_ | with_reducible refine w_sl ?_ | with_reducible refine w_part ?_ | with_reducible refine w_noP ?_ | with_reducible refine w_b ?_ | with_reducible refine w_notB ?_ | with_reducible refine w_if ?_ | with_reducible refine w_chain ?_ | with_reducible refine w_zip ?_ | with_reducible refine w_enum ?_ | with_reducible refine wg_add ?_ | with_reducible refine wg_sub ?_ | with_reducible refine wg_neg ?_ | with_reducible refine wg_lt ?_ | with_reducible refine wg_le ?_ | with_reducible refine wg_gt ?_ | with_reducible refine wg_ge ?_ | with_reducible refine wg_not ?_ | with_reducible refine wg_lenL ?_ | with_reducible refine wg_lenT ?_ | with_reducible refine wg_lenC ?_ | with_reducible refine wg_int ?_ | with_reducible refine wg_intB ?_ | with_reducible refine wg_abs ?_ | with_reducible refine wg_max2 ?_ | with_reducible refine wg_min2 ?_ | with_reducible refine wg_reprB ?_ | with_reducible refine wg_itL ?_ | with_reducible refine wg_itT ?_ | with_reducible refine wg_itC ?_ | with_reducible refine wg_itS ?_ | with_reducible refine wg_slL ?_ | with_reducible refine wg_slT ?_ | with_reducible refine wg_tupleL ?_ | with_reducible refine wg_tupleT ?_ | with_reducible refine wg_listL ?_ | with_reducible refine wg_listT ?_ | with_reducible refine wg_revL ?_ | with_reducible refine wg_revT ?_ | with_reducible refine wg_zipT ?_ | with_reducible refine wg_allM ?_ | with_reducible refine wg_anyM ?_ | with_reducible refine w_var (by with_unfolding_all rfl) ?_ | with_reducible refine wg_mul (Or.inr (by decide)) ?_ | with_reducible refine wg_mul (Or.inl (by decide)) ?_ | with_reducible refine wg_mod (by decide +kernel) ?_ | with_reducible refine wg_fdiv (by decide) ?_ | with_reducible refine wg_pow (by decide +kernel) ?_ | with_reducible refine wg_tup (by simp; done) ?_ | with_reducible refine wg_lst (by simp; done) ?_ | with_reducible refine w_dieSet (by decide) ?_ | with_reducible refine w_dieAt (by decide) (fun _ => ?_) | refine ⟨_, rfl, ?_⟩ | refine ⟨rfl, ?_⟩ | with_reducible refine wg_mkP ?_ | with_reducible refine wg_mkI ?_ | with_reducible refine wg_ixL (by rfl) ?_ | with_reducible refine wg_fld (by decide +kernel) (by rfl) ?_ | refine ⟨_, _, rfl, ?_⟩))
  refine (w_others (List.mem_append_right _ List.mem_cons_self)).imp (fun r hr => ?_) fun _ _ x => x
  subst hr
  (repeat (first | with_reducible refine ws_seq ?_ | with_reducible refine ws_asg ?_ | with_reducible refine ws_ret ?_ | with_reducible refine ws_if ?_ | with_reducible refine ws_next ?_ | with_reducible refine ws_retN ?_ | with_reducible refine ws_brk ?_ | with_reducible refine ws_cont ?_ | with_reducible refine ws_drop ?_ | with_reducible refine ws_setI ?_ | with_reducible refine ws_for ?_ | with_reducible refine ws_par ?_ | with_reducible refine ws_frz ?_ | with_reducible refine ws_parO ?_ | with_reducible refine ws_setOwn ?_ | with_reducible refine ⟨fun _ => ?_, fun z => absurd rfl z⟩ | refine And.intro rt_nx fun _ => ?_ | refine And.intro bk_nx fun _ => ?_ | refine And.intro ct_nx fun _ => ?_ | with_reducible refine w_c2 ?_ | with_reducible refine w_c1 ?_ | with_reducible refine w_cA ?_ | with_reducible refine w_cons ?_ | with_reducible refine w_nil ?_ | with_reducible refine w_c ?_ | with_reducible refine w_call ?_ | with_reducible refine w_it ?_ | with_reducible refine w_rng1 ?_ | with_reducible refine w_rng2 ?_ | with_reducible refine w_m0 ?_ | with_reducible refine w_m1 ?_ | with_reducible refine w_sl ?_ | with_reducible refine w_part ?_ | with_reducible refine w_noP ?_ | with_reducible refine w_b ?_ | with_reducible refine w_notB ?_ | with_reducible refine w_if ?_ | with_reducible refine w_chain ?_ | with_reducible refine w_zip ?_ | with_reducible refine w_enum ?_ | with_reducible refine wg_add ?_ | with_reducible refine wg_sub ?_ | with_reducible refine wg_neg ?_ | with_reducible refine wg_lt ?_ | with_reducible refine wg_le ?_ | with_reducible refine wg_gt ?_ | with_reducible refine wg_ge ?_ | with_reducible refine wg_not ?_ | with_reducible refine wg_lenL ?_ | with_reducible refine wg_lenT ?_ | with_reducible refine wg_lenC ?_ | with_reducible refine wg_int ?_ | with_reducible refine wg_intB ?_ | with_reducible refine wg_abs ?_ | with_reducible refine wg_max2 ?_ | with_reducible refine wg_min2 ?_ | with_reducible refine wg_reprB ?_ | with_reducible refine wg_itL ?_ | with_reducible refine wg_itT ?_ | with_reducible refine wg_itC ?_ | with_reducible refine wg_itS ?_ | with_reducible refine wg_slL ?_ | with_reducible refine wg_slT ?_ | with_reducible refine wg_tupleL ?_ | with_reducible refine wg_tupleT ?_ | with_reducible refine wg_listL ?_ | with_reducible refine wg_listT ?_ | with_reducible refine wg_revL ?_ | with_reducible refine wg_revT ?_ | with_reducible refine wg_zipT ?_ | with_reducible refine wg_allM ?_ | with_reducible refine wg_anyM ?_ | with_reducible refine w_var (by with_unfolding_all rfl) ?_ | with_reducible refine wg_mul (Or.inr (by decide)) ?_ | with_reducible refine wg_mul (Or.inl (by decide)) ?_ | with_reducible refine wg_mod (by decide +kernel) ?_ | with_reducible refine wg_fdiv (by decide) ?_ | with_reducible refine wg_pow (by decide +kernel) ?_ | with_reducible refine wg_tup (by simp; done) ?_ | with_reducible refine wg_lst (by simp; done) ?_ | with_reducible refine w_dieSet (by decide) ?_ | with_reducible refine w_dieAt (by decide) (fun _ => ?_) | refine ⟨_, rfl, ?_⟩ | refine ⟨rfl, ?_⟩ | with_reducible refine wg_mkP ?_ | with_reducible refine wg_mkI ?_ | with_reducible refine wg_ixL (by rfl) ?_ | with_reducible refine wg_fld (by decide +kernel) (by rfl) ?_ | refine ⟨_, _, rfl, ?_⟩))
  refine wg_ne (b := true) (by kernel_rfl) ?_
  refine ⟨_, rfl, fun h => (nomatch h), fun _ => ?_⟩
  (repeat (first | with_reducible refine ws_seq ?_ | with_reducible refine ws_asg ?_ | with_reducible refine ws_ret ?_ | with_reducible refine ws_if ?_ | with_reducible refine ws_next ?_ | with_reducible refine ws_retN ?_ | with_reducible refine ws_brk ?_ | with_reducible refine ws_cont ?_ | with_reducible refine ws_drop ?_ | with_reducible refine ws_setI ?_ | with_reducible refine ws_for ?_ | with_reducible refine ws_par ?_ | with_reducible refine ws_frz ?_ | with_reducible refine ws_parO ?_ | with_reducible refine ws_setOwn ?_ | with_reducible refine ⟨fun _ => ?_, fun z => absurd rfl z⟩ | refine And.intro rt_nx fun _ => ?_ | refine And.intro bk_nx fun _ => ?_ | refine And.intro ct_nx fun _ => ?_ | with_reducible refine w_c2 ?_ | with_reducible refine w_c1 ?_ | with_reducible refine w_cA ?_ | with_reducible refine w_cons ?_ | with_reducible refine w_nil ?_ | with_reducible refine w_c ?_ | with_reducible refine w_call ?_ | with_reducible refine w_it ?_ | with_reducible refine w_rng1 ?_ | with_reducible refine w_rng2 ?_ | with_reducible refine w_m0 ?_ | with_reducible refine w_m1 ?_ | with_reducible refine w_sl ?_ | with_reducible refine w_part ?_ | with_reducible refine w_noP ?_ | with_reducible refine w_b ?_ | with_reducible refine w_notB ?_ | with_reducible refine w_if ?_ | with_reducible refine w_chain ?_ | with_reducible refine w_zip ?_ | with_reducible refine w_enum ?_ | with_reducible refine wg_add ?_ | with_reducible refine wg_sub ?_ | with_reducible refine wg_neg ?_ | with_reducible refine wg_lt ?_ | with_reducible refine wg_le ?_ | with_reducible refine wg_gt ?_ | with_reducible refine wg_ge ?_ | with_reducible refine wg_not ?_ | with_reducible refine wg_lenL ?_ | with_reducible refine wg_lenT ?_ | with_reducible refine wg_lenC ?_ | with_reducible refine wg_int ?_ | with_reducible refine wg_intB ?_ | with_reducible refine wg_abs ?_ | with_reducible refine wg_max2 ?_ | with_reducible refine wg_min2 ?_ | with_reducible refine wg_reprB ?_ | with_reducible refine wg_itL ?_ | with_reducible refine wg_itT ?_ | with_reducible refine wg_itC ?_ | with_reducible refine wg_itS ?_ | with_reducible refine wg_slL ?_ | with_reducible refine wg_slT ?_ | with_reducible refine wg_tupleL ?_ | with_reducible refine wg_tupleT ?_ | with_reducible refine wg_listL ?_ | with_reducible refine wg_listT ?_ | with_reducible refine wg_revL ?_ | with_reducible refine wg_revT ?_ | with_reducible refine wg_zipT ?_ | with_reducible refine wg_allM ?_ | with_reducible refine wg_anyM ?_ | with_reducible refine w_var (by with_unfolding_all rfl) ?_ | with_reducible refine wg_mul (Or.inr (by decide)) ?_ | with_reducible refine wg_mul (Or.inl (by decide)) ?_ | with_reducible refine wg_mod (by decide +kernel) ?_ | with_reducible refine wg_fdiv (by decide) ?_ | with_reducible refine wg_pow (by decide +kernel) ?_ | with_reducible refine wg_tup (by simp; done) ?_ | with_reducible refine wg_lst (by simp; done) ?_ | with_reducible refine w_dieSet (by decide) ?_ | with_reducible refine w_dieAt (by decide) (fun _ => ?_) | refine ⟨_, rfl, ?_⟩ | refine ⟨rfl, ?_⟩ | with_reducible refine wg_mkP ?_ | with_reducible refine wg_mkI ?_ | with_reducible refine wg_ixL (by rfl) ?_ | with_reducible refine wg_fld (by decide +kernel) (by rfl) ?_ | refine ⟨_, _, rfl, ?_⟩))
  refine w_compM gB ?_
  (repeat (first | with_reducible refine ws_seq ?_ | with_reducible refine ws_asg ?_ | with_reducible refine ws_ret ?_ | with_reducible refine ws_if ?_ | with_reducible refine ws_next ?_ | with_reducible refine ws_retN ?_ | with_reducible refine ws_brk ?_ | with_reducible refine ws_cont ?_ | with_reducible refine ws_drop ?_ | with_reducible refine ws_setI ?_ | with_reducible refine ws_for ?_ | with_reducible refine ws_par ?_ | with_reducible refine ws_frz ?_ | with_reducible refine ws_parO ?_ | with_reducible refine ws_setOwn ?_ | with_reducible refine ⟨fun _ => ?_, fun z => absurd rfl z⟩ | refine And.intro rt_nx fun _ => ?_ | refine And.intro bk_nx fun _ => ?_ | refine And.intro ct_nx fun _ => ?_ | with_reducible refine w_c2 ?_ | with_reducible refine w_c1 ?_ | with_reducible refine w_cA ?_ | with_reducible refine w_cons ?_ | with_reducible refine w_nil ?_ | with_reducible refine w_c ?_ | with_reducible refine w_call ?_ | with_reducible refine w_it ?_ | with_reducible refine w_rng1 ?_ | with_reducible refine w_rng2 ?_ | with_reducible refine w_m0 ?_ | with_reducible refine w_m1 ?_ | with_reducible refine w_sl ?_ | with_reducible refine w_part ?_ | with_reducible refine w_noP ?_ | with_reducible refine w_b ?_ | with_reducible refine w_notB ?_ | with_reducible refine w_if ?_ | with_reducible refine w_chain ?_ | with_reducible refine w_zip ?_ | with_reducible refine w_enum ?_ | with_reducible refine wg_add ?_ | with_reducible refine wg_sub ?_ | with_reducible refine wg_neg ?_ | with_reducible refine wg_lt ?_ | with_reducible refine wg_le ?_ | with_reducible refine wg_gt ?_ | with_reducible refine wg_ge ?_ | with_reducible refine wg_not ?_ | with_reducible refine wg_lenL ?_ | with_reducible refine wg_lenT ?_ | with_reducible refine wg_lenC ?_ | with_reducible refine wg_int ?_ | with_reducible refine wg_intB ?_ | with_reducible refine wg_abs ?_ | with_reducible refine wg_max2 ?_ | with_reducible refine wg_min2 ?_ | with_reducible refine wg_reprB ?_ | with_reducible refine wg_itL ?_ | with_reducible refine wg_itT ?_ | with_reducible refine wg_itC ?_ | with_reducible refine wg_itS ?_ | with_reducible refine wg_slL ?_ | with_reducible refine wg_slT ?_ | with_reducible refine wg_tupleL ?_ | with_reducible refine wg_tupleT ?_ | with_reducible refine wg_listL ?_ | with_reducible refine wg_listT ?_ | with_reducible refine wg_revL ?_ | with_reducible refine wg_revT ?_ | with_reducible refine wg_zipT ?_ | with_reducible refine wg_allM ?_ | with_reducible refine wg_anyM ?_ | with_reducible refine w_var (by with_unfolding_all rfl) ?_ | with_reducible refine wg_mul (Or.inr (by decide)) ?_ | with_reducible refine wg_mul (Or.inl (by decide)) ?_ | with_reducible refine wg_mod (by decide +kernel) ?_ | with_reducible refine wg_fdiv (by decide) ?_ | with_reducible refine wg_pow (by decide +kernel) ?_ | with_reducible refine wg_tup (by simp; done) ?_ | with_reducible refine wg_lst (by simp; done) ?_ | with_reducible refine w_dieSet (by decide) ?_ | with_reducible refine w_dieAt (by decide) (fun _ => ?_) | refine ⟨_, rfl, ?_⟩ | refine ⟨rfl, ?_⟩ | with_reducible refine wg_mkP ?_ | with_reducible refine wg_mkI ?_ | with_reducible refine wg_ixL (by rfl) ?_ | with_reducible refine wg_fld (by decide +kernel) (by rfl) ?_ | refine ⟨_, _, rfl, ?_⟩))
  refine ⟨by simp, fun d hd => ⟨_, rfl, ?_⟩, ?_⟩
  · obtain ⟨c, fs, hc, rfl⟩ : ∃ c fs, c ∈ keepC ∧ d = .exn c fs := by
      simp only [List.mem_cons, List.not_mem_nil, or_false] at hd
      rcases hd with rfl | rfl | rfl | rfl | rfl | rfl <;> exact ⟨_, _, by simp, rfl⟩
    (repeat (first | with_reducible refine ws_seq ?_ | with_reducible refine ws_asg ?_ | with_reducible refine ws_ret ?_ | with_reducible refine ws_if ?_ | with_reducible refine ws_next ?_ | with_reducible refine ws_retN ?_ | with_reducible refine ws_brk ?_ | with_reducible refine ws_cont ?_ | with_reducible refine ws_drop ?_ | with_reducible refine ws_setI ?_ | with_reducible refine ws_for ?_ | with_reducible refine ws_par ?_ | with_reducible refine ws_frz ?_ | with_reducible refine ws_parO ?_ | with_reducible refine ws_setOwn ?_ | with_reducible refine ⟨fun _ => ?_, fun z => absurd rfl z⟩ | refine And.intro rt_nx fun _ => ?_ | refine And.intro bk_nx fun _ => ?_ | refine And.intro ct_nx fun _ => ?_ | with_reducible refine w_c2 ?_ | with_reducible refine w_c1 ?_ | with_reducible refine w_cA ?_ | with_reducible refine w_cons ?_ | with_reducible refine w_nil ?_ | with_reducible refine w_c ?_ | with_reducible refine w_call ?_ | with_reducible refine w_it ?_ | with_reducible refine w_rng1 ?_ | with_reducible refine w_rng2 ?_ | with_reducible refine w_m0 ?_ | with_reducible refine w_m1 ?_ | with_reducible refine w_sl ?_ | with_reducible refine w_part ?_ | with_reducible refine w_noP ?_ | with_reducible refine w_b ?_ | with_reducible refine w_notB ?_ | with_reducible refine w_if ?_ | with_reducible refine w_chain ?_ | with_reducible refine w_zip ?_ | with_reducible refine w_enum ?_ | with_reducible refine wg_add ?_ | with_reducible refine wg_sub ?_ | with_reducible refine wg_neg ?_ | with_reducible refine wg_lt ?_ | with_reducible refine wg_le ?_ | with_reducible refine wg_gt ?_ | with_reducible refine wg_ge ?_ | with_reducible refine wg_not ?_ | with_reducible refine wg_lenL ?_ | with_reducible refine wg_lenT ?_ | with_reducible refine wg_lenC ?_ | with_reducible refine wg_int ?_ | with_reducible refine wg_intB ?_ | with_reducible refine wg_abs ?_ | with_reducible refine wg_max2 ?_ | with_reducible refine wg_min2 ?_ | with_reducible refine wg_reprB ?_ | with_reducible refine wg_itL ?_ | with_reducible refine wg_itT ?_ | with_reducible refine wg_itC ?_ | with_reducible refine wg_itS ?_ | with_reducible refine wg_slL ?_ | with_reducible refine wg_slT ?_ | with_reducible refine wg_tupleL ?_ | with_reducible refine wg_tupleT ?_ | with_reducible refine wg_listL ?_ | with_reducible refine wg_listT ?_ | with_reducible refine wg_revL ?_ | with_reducible refine wg_revT ?_ | with_reducible refine wg_zipT ?_ | with_reducible refine wg_allM ?_ | with_reducible refine wg_anyM ?_ | with_reducible refine w_var (by with_unfolding_all rfl) ?_ | with_reducible refine wg_mul (Or.inr (by decide)) ?_ | with_reducible refine wg_mul (Or.inl (by decide)) ?_ | with_reducible refine wg_mod (by decide +kernel) ?_ | with_reducible refine wg_fdiv (by decide) ?_ | with_reducible refine wg_pow (by decide +kernel) ?_ | with_reducible refine wg_tup (by simp; done) ?_ | with_reducible refine wg_lst (by simp; done) ?_ | with_reducible refine w_dieSet (by decide) ?_ | with_reducible refine w_dieAt (by decide) (fun _ => ?_) | refine ⟨_, rfl, ?_⟩ | refine ⟨rfl, ?_⟩ | with_reducible refine wg_mkP ?_ | with_reducible refine wg_mkI ?_ | with_reducible refine wg_ixL (by rfl) ?_ | with_reducible refine wg_fld (by decide +kernel) (by rfl) ?_ | refine ⟨_, _, rfl, ?_⟩))
    exact w_bags (List.mem_append_right _ (List.mem_cons_of_mem _ hc))
  (repeat (first | with_reducible refine ws_seq ?_ | with_reducible refine ws_asg ?_ | with_reducible refine ws_ret ?_ | with_reducible refine ws_if ?_ | with_reducible refine ws_next ?_ | with_reducible refine ws_retN ?_ | with_reducible refine ws_brk ?_ | with_reducible refine ws_cont ?_ | with_reducible refine ws_drop ?_ | with_reducible refine ws_setI ?_ | with_reducible refine ws_for ?_ | with_reducible refine ws_par ?_ | with_reducible refine ws_frz ?_ | with_reducible refine ws_parO ?_ | with_reducible refine ws_setOwn ?_ | with_reducible refine ⟨fun _ => ?_, fun z => absurd rfl z⟩ | refine And.intro rt_nx fun _ => ?_ | refine And.intro bk_nx fun _ => ?_ | refine And.intro ct_nx fun _ => ?_ | with_reducible refine w_c2 ?_ | with_reducible refine w_c1 ?_ | with_reducible refine w_cA ?_ | with_reducible refine w_cons ?_ | with_reducible refine w_nil ?_ | with_reducible refine w_c ?_ | with_reducible refine w_call ?_ | with_reducible refine w_it ?_ | with_reducible refine w_rng1 ?_ | with_reducible refine w_rng2 ?_ | with_reducible refine w_m0 ?_ | with_reducible refine w_m1 ?_ | with_reducible refine w_sl ?_ | with_reducible refine w_part ?_ | with_reducible refine w_noP ?_ | with_reducible refine w_b ?_ | with_reducible refine w_notB ?_ | with_reducible refine w_if ?_ | with_reducible refine w_chain ?_ | with_reducible refine w_zip ?_ | with_reducible refine w_enum ?_ | with_reducible refine wg_add ?_ | with_reducible refine wg_sub ?_ | with_reducible refine wg_neg ?_ | with_reducible refine wg_lt ?_ | with_reducible refine wg_le ?_ | with_reducible refine wg_gt ?_ | with_reducible refine wg_ge ?_ | with_reducible refine wg_not ?_ | with_reducible refine wg_lenL ?_ | with_reducible refine wg_lenT ?_ | with_reducible refine wg_lenC ?_ | with_reducible refine wg_int ?_ | with_reducible refine wg_intB ?_ | with_reducible refine wg_abs ?_ | with_reducible refine wg_max2 ?_ | with_reducible refine wg_min2 ?_ | with_reducible refine wg_reprB ?_ | with_reducible refine wg_itL ?_ | with_reducible refine wg_itT ?_ | with_reducible refine wg_itC ?_ | with_reducible refine wg_itS ?_ | with_reducible refine wg_slL ?_ | with_reducible refine wg_slT ?_ | with_reducible refine wg_tupleL ?_ | with_reducible refine wg_tupleT ?_ | with_reducible refine wg_listL ?_ | with_reducible refine wg_listT ?_ | with_reducible refine wg_revL ?_ | with_reducible refine wg_revT ?_ | with_reducible refine wg_zipT ?_ | with_reducible refine wg_allM ?_ | with_reducible refine wg_anyM ?_ | with_reducible refine w_var (by with_unfolding_all rfl) ?_ | with_reducible refine wg_mul (Or.inr (by decide)) ?_ | with_reducible refine wg_mul (Or.inl (by decide)) ?_ | with_reducible refine wg_mod (by decide +kernel) ?_ | with_reducible refine wg_fdiv (by decide) ?_ | with_reducible refine wg_pow (by decide +kernel) ?_ | with_reducible refine wg_tup (by simp; done) ?_ | with_reducible refine wg_lst (by simp; done) ?_ | with_reducible refine w_dieSet (by decide) ?_ | with_reducible refine w_dieAt (by decide) (fun _ => ?_) | refine ⟨_, rfl, ?_⟩ | refine ⟨rfl, ?_⟩ | with_reducible refine wg_mkP ?_ | with_reducible refine wg_mkI ?_ | with_reducible refine wg_ixL (by rfl) ?_ | with_reducible refine wg_fld (by decide +kernel) (by rfl) ?_ | refine ⟨_, _, rfl, ?_⟩))
  refine wg_mulL ⟨by decide, by decide, by decide⟩ ?_
  refine wg_ne (b := true) (by kernel_rfl) ?_
  refine ⟨_, rfl, fun h => (nomatch h), fun _ => ?_⟩
  (repeat (first | with_reducible refine ws_seq ?_ | with_reducible refine ws_asg ?_ | with_reducible refine ws_ret ?_ | with_reducible refine ws_if ?_ | with_reducible refine ws_next ?_ | with_reducible refine ws_retN ?_ | with_reducible refine ws_brk ?_ | with_reducible refine ws_cont ?_ | with_reducible refine ws_drop ?_ | with_reducible refine ws_setI ?_ | with_reducible refine ws_for ?_ | with_reducible refine ws_par ?_ | with_reducible refine ws_frz ?_ | with_reducible refine ws_parO ?_ | with_reducible refine ws_setOwn ?_ | with_reducible refine ⟨fun _ => ?_, fun z => absurd rfl z⟩ | refine And.intro rt_nx fun _ => ?_ | refine And.intro bk_nx fun _ => ?_ | refine And.intro ct_nx fun _ => ?_ | with_reducible refine w_c2 ?_ | with_reducible refine w_c1 ?_ | with_reducible refine w_cA ?_ | with_reducible refine w_cons ?_ | with_reducible refine w_nil ?_ | with_reducible refine w_c ?_ | with_reducible refine w_call ?_ | with_reducible refine w_it ?_ | with_reducible refine w_rng1 ?_ | with_reducible refine w_rng2 ?_ | with_reducible refine w_m0 ?_ | with_reducible refine w_m1 ?_ | with_reducible refine w_sl ?_ | with_reducible refine w_part ?_ | with_reducible refine w_noP ?_ | with_reducible refine w_b ?_ | with_reducible refine w_notB ?_ | with_reducible refine w_if ?_ | with_reducible refine w_chain ?_ | with_reducible refine w_zip ?_ | with_reducible refine w_enum ?_ | with_reducible refine wg_add ?_ | with_reducible refine wg_sub ?_ | with_reducible refine wg_neg ?_ | with_reducible refine wg_lt ?_ | with_reducible refine wg_le ?_ | with_reducible refine wg_gt ?_ | with_reducible refine wg_ge ?_ | with_reducible refine wg_not ?_ | with_reducible refine wg_lenL ?_ | with_reducible refine wg_lenT ?_ | with_reducible refine wg_lenC ?_ | with_reducible refine wg_int ?_ | with_reducible refine wg_intB ?_ | with_reducible refine wg_abs ?_ | with_reducible refine wg_max2 ?_ | with_reducible refine wg_min2 ?_ | with_reducible refine wg_reprB ?_ | with_reducible refine wg_itL ?_ | with_reducible refine wg_itT ?_ | with_reducible refine wg_itC ?_ | with_reducible refine wg_itS ?_ | with_reducible refine wg_slL ?_ | with_reducible refine wg_slT ?_ | with_reducible refine wg_tupleL ?_ | with_reducible refine wg_tupleT ?_ | with_reducible refine wg_listL ?_ | with_reducible refine wg_listT ?_ | with_reducible refine wg_revL ?_ | with_reducible refine wg_revT ?_ | with_reducible refine wg_zipT ?_ | with_reducible refine wg_allM ?_ | with_reducible refine wg_anyM ?_ | with_reducible refine w_var (by with_unfolding_all rfl) ?_ | with_reducible refine wg_mul (Or.inr (by decide)) ?_ | with_reducible refine wg_mul (Or.inl (by decide)) ?_ | with_reducible refine wg_mod (by decide +kernel) ?_ | with_reducible refine wg_fdiv (by decide) ?_ | with_reducible refine wg_pow (by decide +kernel) ?_ | with_reducible refine wg_tup (by simp; done) ?_ | with_reducible refine wg_lst (by simp; done) ?_ | with_reducible refine w_dieSet (by decide) ?_ | with_reducible refine w_dieAt (by decide) (fun _ => ?_) | refine ⟨_, rfl, ?_⟩ | refine ⟨rfl, ?_⟩ | with_reducible refine wg_mkP ?_ | with_reducible refine wg_mkI ?_ | with_reducible refine wg_ixL (by rfl) ?_ | with_reducible refine wg_fld (by decide +kernel) (by rfl) ?_ | refine ⟨_, _, rfl, ?_⟩))
  refine wg_addL (by decide) ?_
  (repeat (first | with_reducible refine ws_seq ?_ | with_reducible refine ws_asg ?_ | with_reducible refine ws_ret ?_ | with_reducible refine ws_if ?_ | with_reducible refine ws_next ?_ | with_reducible refine ws_retN ?_ | with_reducible refine ws_brk ?_ | with_reducible refine ws_cont ?_ | with_reducible refine ws_drop ?_ | with_reducible refine ws_setI ?_ | with_reducible refine ws_for ?_ | with_reducible refine ws_par ?_ | with_reducible refine ws_frz ?_ | with_reducible refine ws_parO ?_ | with_reducible refine ws_setOwn ?_ | with_reducible refine ⟨fun _ => ?_, fun z => absurd rfl z⟩ | refine And.intro rt_nx fun _ => ?_ | refine And.intro bk_nx fun _ => ?_ | refine And.intro ct_nx fun _ => ?_ | with_reducible refine w_c2 ?_ | with_reducible refine w_c1 ?_ | with_reducible refine w_cA ?_ | with_reducible refine w_cons ?_ | with_reducible refine w_nil ?_ | with_reducible refine w_c ?_ | with_reducible refine w_call ?_ | with_reducible refine w_it ?_ | with_reducible refine w_rng1 ?_ | with_reducible refine w_rng2 ?_ | with_reducible refine w_m0 ?_ | with_reducible refine w_m1 ?_ | with_reducible refine w_sl ?_ | with_reducible refine w_part ?_ | with_reducible refine w_noP ?_ | with_reducible refine w_b ?_ | with_reducible refine w_notB ?_ | with_reducible refine w_if ?_ | with_reducible refine w_chain ?_ | with_reducible refine w_zip ?_ | with_reducible refine w_enum ?_ | with_reducible refine wg_add ?_ | with_reducible refine wg_sub ?_ | with_reducible refine wg_neg ?_ | with_reducible refine wg_lt ?_ | with_reducible refine wg_le ?_ | with_reducible refine wg_gt ?_ | with_reducible refine wg_ge ?_ | with_reducible refine wg_not ?_ | with_reducible refine wg_lenL ?_ | with_reducible refine wg_lenT ?_ | with_reducible refine wg_lenC ?_ | with_reducible refine wg_int ?_ | with_reducible refine wg_intB ?_ | with_reducible refine wg_abs ?_ | with_reducible refine wg_max2 ?_ | with_reducible refine wg_min2 ?_ | with_reducible refine wg_reprB ?_ | with_reducible refine wg_itL ?_ | with_reducible refine wg_itT ?_ | with_reducible refine wg_itC ?_ | with_reducible refine wg_itS ?_ | with_reducible refine wg_slL ?_ | with_reducible refine wg_slT ?_ | with_reducible refine wg_tupleL ?_ | with_reducible refine wg_tupleT ?_ | with_reducible refine wg_listL ?_ | with_reducible refine wg_listT ?_ | with_reducible refine wg_revL ?_ | with_reducible refine wg_revT ?_ | with_reducible refine wg_zipT ?_ | with_reducible refine wg_allM ?_ | with_reducible refine wg_anyM ?_ | with_reducible refine w_var (by with_unfolding_all rfl) ?_ | with_reducible refine wg_mul (Or.inr (by decide)) ?_ | with_reducible refine wg_mul (Or.inl (by decide)) ?_ | with_reducible refine wg_mod (by decide +kernel) ?_ | with_reducible refine wg_fdiv (by decide) ?_ | with_reducible refine wg_pow (by decide +kernel) ?_ | with_reducible refine wg_tup (by simp; done) ?_ | with_reducible refine wg_lst (by simp; done) ?_ | with_reducible refine w_dieSet (by decide) ?_ | with_reducible refine w_dieAt (by decide) (fun _ => ?_) | refine ⟨_, rfl, ?_⟩ | refine ⟨rfl, ?_⟩ | with_reducible refine wg_mkP ?_ | with_reducible refine wg_mkI ?_ | with_reducible refine wg_ixL (by rfl) ?_ | with_reducible refine wg_fld (by decide +kernel) (by rfl) ?_ | refine ⟨_, _, rfl, ?_⟩))
  refine w_compM gO ?_
  (repeat (first | with_reducible refine ws_seq ?_ | with_reducible refine ws_asg ?_ | with_reducible refine ws_ret ?_ | with_reducible refine ws_if ?_ | with_reducible refine ws_next ?_ | with_reducible refine ws_retN ?_ | with_reducible refine ws_brk ?_ | with_reducible refine ws_cont ?_ | with_reducible refine ws_drop ?_ | with_reducible refine ws_setI ?_ | with_reducible refine ws_for ?_ | with_reducible refine ws_par ?_ | with_reducible refine ws_frz ?_ | with_reducible refine ws_parO ?_ | with_reducible refine ws_setOwn ?_ | with_reducible refine ⟨fun _ => ?_, fun z => absurd rfl z⟩ | refine And.intro rt_nx fun _ => ?_ | refine And.intro bk_nx fun _ => ?_ | refine And.intro ct_nx fun _ => ?_ | with_reducible refine w_c2 ?_ | with_reducible refine w_c1 ?_ | with_reducible refine w_cA ?_ | with_reducible refine w_cons ?_ | with_reducible refine w_nil ?_ | with_reducible refine w_c ?_ | with_reducible refine w_call ?_ | with_reducible refine w_it ?_ | with_reducible refine w_rng1 ?_ | with_reducible refine w_rng2 ?_ | with_reducible refine w_m0 ?_ | with_reducible refine w_m1 ?_ | with_reducible refine w_sl ?_ | with_reducible refine w_part ?_ | with_reducible refine w_noP ?_ | with_reducible refine w_b ?_ | with_reducible refine w_notB ?_ | with_reducible refine w_if ?_ | with_reducible refine w_chain ?_ | with_reducible refine w_zip ?_ | with_reducible refine w_enum ?_ | with_reducible refine wg_add ?_ | with_reducible refine wg_sub ?_ | with_reducible refine wg_neg ?_ | with_reducible refine wg_lt ?_ | with_reducible refine wg_le ?_ | with_reducible refine wg_gt ?_ | with_reducible refine wg_ge ?_ | with_reducible refine wg_not ?_ | with_reducible refine wg_lenL ?_ | with_reducible refine wg_lenT ?_ | with_reducible refine wg_lenC ?_ | with_reducible refine wg_int ?_ | with_reducible refine wg_intB ?_ | with_reducible refine wg_abs ?_ | with_reducible refine wg_max2 ?_ | with_reducible refine wg_min2 ?_ | with_reducible refine wg_reprB ?_ | with_reducible refine wg_itL ?_ | with_reducible refine wg_itT ?_ | with_reducible refine wg_itC ?_ | with_reducible refine wg_itS ?_ | with_reducible refine wg_slL ?_ | with_reducible refine wg_slT ?_ | with_reducible refine wg_tupleL ?_ | with_reducible refine wg_tupleT ?_ | with_reducible refine wg_listL ?_ | with_reducible refine wg_listT ?_ | with_reducible refine wg_revL ?_ | with_reducible refine wg_revT ?_ | with_reducible refine wg_zipT ?_ | with_reducible refine wg_allM ?_ | with_reducible refine wg_anyM ?_ | with_reducible refine w_var (by with_unfolding_all rfl) ?_ | with_reducible refine wg_mul (Or.inr (by decide)) ?_ | with_reducible refine wg_mul (Or.inl (by decide)) ?_ | with_reducible refine wg_mod (by decide +kernel) ?_ | with_reducible refine wg_fdiv (by decide) ?_ | with_reducible refine wg_pow (by decide +kernel) ?_ | with_reducible refine wg_tup (by simp; done) ?_ | with_reducible refine wg_lst (by simp; done) ?_ | with_reducible refine w_dieSet (by decide) ?_ | with_reducible refine w_dieAt (by decide) (fun _ => ?_) | refine ⟨_, rfl, ?_⟩ | refine ⟨rfl, ?_⟩ | with_reducible refine wg_mkP ?_ | with_reducible refine wg_mkI ?_ | with_reducible refine wg_ixL (by rfl) ?_ | with_reducible refine wg_fld (by decide +kernel) (by rfl) ?_ | refine ⟨_, _, rfl, ?_⟩))
  refine ⟨by simp, fun d hd => ⟨_, rfl, ?_⟩, ?_⟩
  · obtain ⟨c, fs, hc, rfl⟩ : ∃ c fs, c ∈ keepC ∧ d = .exn c fs := by
      simp only [List.mem_cons, List.not_mem_nil, or_false] at hd
      rcases hd with rfl | rfl | rfl | rfl | rfl | rfl <;> exact ⟨_, _, by simp, rfl⟩
    (repeat (first | with_reducible refine ws_seq ?_ | with_reducible refine ws_asg ?_ | with_reducible refine ws_ret ?_ | with_reducible refine ws_if ?_ | with_reducible refine ws_next ?_ | with_reducible refine ws_retN ?_ | with_reducible refine ws_brk ?_ | with_reducible refine ws_cont ?_ | with_reducible refine ws_drop ?_ | with_reducible refine ws_setI ?_ | with_reducible refine ws_for ?_ | with_reducible refine ws_par ?_ | with_reducible refine ws_frz ?_ | with_reducible refine ws_parO ?_ | with_reducible refine ws_setOwn ?_ | with_reducible refine ⟨fun _ => ?_, fun z => absurd rfl z⟩ | refine And.intro rt_nx fun _ => ?_ | refine And.intro bk_nx fun _ => ?_ | refine And.intro ct_nx fun _ => ?_ | with_reducible refine w_c2 ?_ | with_reducible refine w_c1 ?_ | with_reducible refine w_cA ?_ | with_reducible refine w_cons ?_ | with_reducible refine w_nil ?_ | with_reducible refine w_c ?_ | with_reducible refine w_call ?_ | with_reducible refine w_it ?_ | with_reducible refine w_rng1 ?_ | with_reducible refine w_rng2 ?_ | with_reducible refine w_m0 ?_ | with_reducible refine w_m1 ?_ | with_reducible refine w_sl ?_ | with_reducible refine w_part ?_ | with_reducible refine w_noP ?_ | with_reducible refine w_b ?_ | with_reducible refine w_notB ?_ | with_reducible refine w_if ?_ | with_reducible refine w_chain ?_ | with_reducible refine w_zip ?_ | with_reducible refine w_enum ?_ | with_reducible refine wg_add ?_ | with_reducible refine wg_sub ?_ | with_reducible refine wg_neg ?_ | with_reducible refine wg_lt ?_ | with_reducible refine wg_le ?_ | with_reducible refine wg_gt ?_ | with_reducible refine wg_ge ?_ | with_reducible refine wg_not ?_ | with_reducible refine wg_lenL ?_ | with_reducible refine wg_lenT ?_ | with_reducible refine wg_lenC ?_ | with_reducible refine wg_int ?_ | with_reducible refine wg_intB ?_ | with_reducible refine wg_abs ?_ | with_reducible refine wg_max2 ?_ | with_reducible refine wg_min2 ?_ | with_reducible refine wg_reprB ?_ | with_reducible refine wg_itL ?_ | with_reducible refine wg_itT ?_ | with_reducible refine wg_itC ?_ | with_reducible refine wg_itS ?_ | with_reducible refine wg_slL ?_ | with_reducible refine wg_slT ?_ | with_reducible refine wg_tupleL ?_ | with_reducible refine wg_tupleT ?_ | with_reducible refine wg_listL ?_ | with_reducible refine wg_listT ?_ | with_reducible refine wg_revL ?_ | with_reducible refine wg_revT ?_ | with_reducible refine wg_zipT ?_ | with_reducible refine wg_allM ?_ | with_reducible refine wg_anyM ?_ | with_reducible refine w_var (by with_unfolding_all rfl) ?_ | with_reducible refine wg_mul (Or.inr (by decide)) ?_ | with_reducible refine wg_mul (Or.inl (by decide)) ?_ | with_reducible refine wg_mod (by decide +kernel) ?_ | with_reducible refine wg_fdiv (by decide) ?_ | with_reducible refine wg_pow (by decide +kernel) ?_ | with_reducible refine wg_tup (by simp; done) ?_ | with_reducible refine wg_lst (by simp; done) ?_ | with_reducible refine w_dieSet (by decide) ?_ | with_reducible refine w_dieAt (by decide) (fun _ => ?_) | refine ⟨_, rfl, ?_⟩ | refine ⟨rfl, ?_⟩ | with_reducible refine wg_mkP ?_ | with_reducible refine wg_mkI ?_ | with_reducible refine wg_ixL (by rfl) ?_ | with_reducible refine wg_fld (by decide +kernel) (by rfl) ?_ | refine ⟨_, _, rfl, ?_⟩))
    exact w_others (List.mem_append_right _ (List.mem_cons_of_mem _ hc))
  (repeat (first | with_reducible refine ws_seq ?_ | with_reducible refine ws_asg ?_ | with_reducible refine ws_ret ?_ | with_reducible refine ws_if ?_ | with_reducible refine ws_next ?_ | with_reducible refine ws_retN ?_ | with_reducible refine ws_brk ?_ | with_reducible refine ws_cont ?_ | with_reducible refine ws_drop ?_ | with_reducible refine ws_setI ?_ | with_reducible refine ws_for ?_ | with_reducible refine ws_par ?_ | with_reducible refine ws_frz ?_ | with_reducible refine ws_parO ?_ | with_reducible refine ws_setOwn ?_ | with_reducible refine ⟨fun _ => ?_, fun z => absurd rfl z⟩ | refine And.intro rt_nx fun _ => ?_ | refine And.intro bk_nx fun _ => ?_ | refine And.intro ct_nx fun _ => ?_ | with_reducible refine w_c2 ?_ | with_reducible refine w_c1 ?_ | with_reducible refine w_cA ?_ | with_reducible refine w_cons ?_ | with_reducible refine w_nil ?_ | with_reducible refine w_c ?_ | with_reducible refine w_call ?_ | with_reducible refine w_it ?_ | with_reducible refine w_rng1 ?_ | with_reducible refine w_rng2 ?_ | with_reducible refine w_m0 ?_ | with_reducible refine w_m1 ?_ | with_reducible refine w_sl ?_ | with_reducible refine w_part ?_ | with_reducible refine w_noP ?_ | with_reducible refine w_b ?_ | with_reducible refine w_notB ?_ | with_reducible refine w_if ?_ | with_reducible refine w_chain ?_ | with_reducible refine w_zip ?_ | with_reducible refine w_enum ?_ | with_reducible refine wg_add ?_ | with_reducible refine wg_sub ?_ | with_reducible refine wg_neg ?_ | with_reducible refine wg_lt ?_ | with_reducible refine wg_le ?_ | with_reducible refine wg_gt ?_ | with_reducible refine wg_ge ?_ | with_reducible refine wg_not ?_ | with_reducible refine wg_lenL ?_ | with_reducible refine wg_lenT ?_ | with_reducible refine wg_lenC ?_ | with_reducible refine wg_int ?_ | with_reducible refine wg_intB ?_ | with_reducible refine wg_abs ?_ | with_reducible refine wg_max2 ?_ | with_reducible refine wg_min2 ?_ | with_reducible refine wg_reprB ?_ | with_reducible refine wg_itL ?_ | with_reducible refine wg_itT ?_ | with_reducible refine wg_itC ?_ | with_reducible refine wg_itS ?_ | with_reducible refine wg_slL ?_ | with_reducible refine wg_slT ?_ | with_reducible refine wg_tupleL ?_ | with_reducible refine wg_tupleT ?_ | with_reducible refine wg_listL ?_ | with_reducible refine wg_listT ?_ | with_reducible refine wg_revL ?_ | with_reducible refine wg_revT ?_ | with_reducible refine wg_zipT ?_ | with_reducible refine wg_allM ?_ | with_reducible refine wg_anyM ?_ | with_reducible refine w_var (by with_unfolding_all rfl) ?_ | with_reducible refine wg_mul (Or.inr (by decide)) ?_ | with_reducible refine wg_mul (Or.inl (by decide)) ?_ | with_reducible refine wg_mod (by decide +kernel) ?_ | with_reducible refine wg_fdiv (by decide) ?_ | with_reducible refine wg_pow (by decide +kernel) ?_ | with_reducible refine wg_tup (by simp; done) ?_ | with_reducible refine wg_lst (by simp; done) ?_ | with_reducible refine w_dieSet (by decide) ?_ | with_reducible refine w_dieAt (by decide) (fun _ => ?_) | refine ⟨_, rfl, ?_⟩ | refine ⟨rfl, ?_⟩ | with_reducible refine wg_mkP ?_ | with_reducible refine wg_mkI ?_ | with_reducible refine wg_ixL (by rfl) ?_ | with_reducible refine wg_fld (by decide +kernel) (by rfl) ?_ | refine ⟨_, _, rfl, ?_⟩))
  refine wg_eqX (b := true) (eqX_of (by kernel_rfl)) ?_
  (repeat (first | with_reducible refine ws_seq ?_ | with_reducible refine ws_asg ?_ | with_reducible refine ws_ret ?_ | with_reducible refine ws_if ?_ | with_reducible refine ws_next ?_ | with_reducible refine ws_retN ?_ | with_reducible refine ws_brk ?_ | with_reducible refine ws_cont ?_ | with_reducible refine ws_drop ?_ | with_reducible refine ws_setI ?_ | with_reducible refine ws_for ?_ | with_reducible refine ws_par ?_ | with_reducible refine ws_frz ?_ | with_reducible refine ws_parO ?_ | with_reducible refine ws_setOwn ?_ | with_reducible refine ⟨fun _ => ?_, fun z => absurd rfl z⟩ | refine And.intro rt_nx fun _ => ?_ | refine And.intro bk_nx fun _ => ?_ | refine And.intro ct_nx fun _ => ?_ | with_reducible refine w_c2 ?_ | with_reducible refine w_c1 ?_ | with_reducible refine w_cA ?_ | with_reducible refine w_cons ?_ | with_reducible refine w_nil ?_ | with_reducible refine w_c ?_ | with_reducible refine w_call ?_ | with_reducible refine w_it ?_ | with_reducible refine w_rng1 ?_ | with_reducible refine w_rng2 ?_ | with_reducible refine w_m0 ?_ | with_reducible refine w_m1 ?_ | with_reducible refine w_sl ?_ | with_reducible refine w_part ?_ | with_reducible refine w_noP ?_ | with_reducible refine w_b ?_ | with_reducible refine w_notB ?_ | with_reducible refine w_if ?_ | with_reducible refine w_chain ?_ | with_reducible refine w_zip ?_ | with_reducible refine w_enum ?_ | with_reducible refine wg_add ?_ | with_reducible refine wg_sub ?_ | with_reducible refine wg_neg ?_ | with_reducible refine wg_lt ?_ | with_reducible refine wg_le ?_ | with_reducible refine wg_gt ?_ | with_reducible refine wg_ge ?_ | with_reducible refine wg_not ?_ | with_reducible refine wg_lenL ?_ | with_reducible refine wg_lenT ?_ | with_reducible refine wg_lenC ?_ | with_reducible refine wg_int ?_ | with_reducible refine wg_intB ?_ | with_reducible refine wg_abs ?_ | with_reducible refine wg_max2 ?_ | with_reducible refine wg_min2 ?_ | with_reducible refine wg_reprB ?_ | with_reducible refine wg_itL ?_ | with_reducible refine wg_itT ?_ | with_reducible refine wg_itC ?_ | with_reducible refine wg_itS ?_ | with_reducible refine wg_slL ?_ | with_reducible refine wg_slT ?_ | with_reducible refine wg_tupleL ?_ | with_reducible refine wg_tupleT ?_ | with_reducible refine wg_listL ?_ | with_reducible refine wg_listT ?_ | with_reducible refine wg_revL ?_ | with_reducible refine wg_revT ?_ | with_reducible refine wg_zipT ?_ | with_reducible refine wg_allM ?_ | with_reducible refine wg_anyM ?_ | with_reducible refine w_var (by with_unfolding_all rfl) ?_ | with_reducible refine wg_mul (Or.inr (by decide)) ?_ | with_reducible refine wg_mul (Or.inl (by decide)) ?_ | with_reducible refine wg_mod (by decide +kernel) ?_ | with_reducible refine wg_fdiv (by decide) ?_ | with_reducible refine wg_pow (by decide +kernel) ?_ | with_reducible refine wg_tup (by simp; done) ?_ | with_reducible refine wg_lst (by simp; done) ?_ | with_reducible refine w_dieSet (by decide) ?_ | with_reducible refine w_dieAt (by decide) (fun _ => ?_) | refine ⟨_, rfl, ?_⟩ | refine ⟨rfl, ?_⟩ | with_reducible refine wg_mkP ?_ | with_reducible refine wg_mkI ?_ | with_reducible refine wg_ixL (by rfl) ?_ | with_reducible refine wg_fld (by decide +kernel) (by rfl) ?_ | refine ⟨_, _, rfl, ?_⟩))
  rfl
end K00
namespace K00
open PySem PySem.Spec PyProof.Rows L2 DN KB
theorem w_call_new {ρ : DN.Env} {F G : List D → M D} {fs : DN.Env → M (List D)} {P : D → Prop} {X : XP} (h1 : ∀ S, ∃ S', cCall 2 G fs ρ S = .ok (.mut S.length) S' ∧ IsDie S.length S') (h2 : ∀ n, Wp (IsDie n) (F [.mut n]) P X) : Wp (fun _ => True) (cCall 1 F (cCons (cCall 2 G fs) cNil) ρ) P X := Wp.mk fun S _ => by
  obtain ⟨S', e, hd⟩ := h1 S
  have k := (h2 S.length).at_ S' hd
  have q : cCall 1 F (cCons (cCall 2 G fs) cNil) ρ S = F [.mut S.length] S' := by
    revert e
    generalize cCall 2 G fs = fm
    intro e
    simp only [cCall, cA, cCons, cNil, bind_run, M.pure, e, List.length_cons, List.length_nil, Nat.reduceAdd, if_true]
  rw [q]
  cases r : F [.mut S.length] S' with
  | ok a S2 => rw [r] at k; exact ⟨k.1, trivial⟩
  | exc c f S2 => rw [r] at k; exact ⟨k.1, trivial⟩
  | bad => rw [r] at k; exact k
theorem main : ∀ ns : List Int, ns.length ≤ 63 → ∃ S', F_law [.scr ns] [] = .ok (.bl true) S' := by
  intro ns hn
  have h : Wp (fun _ => True) (F_law [.scr ns]) (fun d => d = .bl true) X0 := by
    refine w_def rfl ?_
    unfold b_law
    (repeat (first | with_reducible refine ws_seq ?_ | with_reducible refine ws_asg ?_ | with_reducible refine ws_ret ?_ | with_reducible refine ws_if ?_ | with_reducible refine ws_next ?_ | with_reducible refine ws_retN ?_ | with_reducible refine ws_brk ?_ | with_reducible refine ws_cont ?_ | with_reducible refine ws_drop ?_ | with_reducible refine ws_setI ?_ | with_reducible refine ws_for ?_ | with_reducible refine ws_par ?_ | with_reducible refine ws_frz ?_ | with_reducible refine ws_parO ?_ | with_reducible refine ws_setOwn ?_ | with_reducible refine ⟨fun _ => ?_, fun z => absurd rfl z⟩ | refine And.intro rt_nx fun _ => ?_ | refine And.intro bk_nx fun _ => ?_ | refine And.intro ct_nx fun _ => ?_ | with_reducible refine w_c2 ?_ | with_reducible refine w_c1 ?_ | with_reducible refine w_cA ?_ | with_reducible refine w_cons ?_ | with_reducible refine w_nil ?_ | with_reducible refine w_c ?_ | with_reducible refine w_call ?_ | with_reducible refine w_it ?_ | with_reducible refine w_rng1 ?_ | with_reducible refine w_rng2 ?_ | with_reducible refine w_m0 ?_ | with_reducible refine w_m1 ?_ | with_reducible refine w_sl ?_ | with_reducible refine w_part ?_ | with_reducible refine w_noP ?_ | with_reducible refine w_b ?_ | with_reducible refine w_notB ?_ | with_reducible refine w_if ?_ | with_reducible refine w_chain ?_ | with_reducible refine w_zip ?_ | with_reducible refine w_enum ?_ | with_reducible refine wg_add ?_ | with_reducible refine wg_sub ?_ | with_reducible refine wg_neg ?_ | with_reducible refine wg_lt ?_ | with_reducible refine wg_le ?_ | with_reducible refine wg_gt ?_ | with_reducible refine wg_ge ?_ | with_reducible refine wg_not ?_ | with_reducible refine wg_lenL ?_ | with_reducible refine wg_lenT ?_ | with_reducible refine wg_lenC ?_ | with_reducible refine wg_int ?_ | with_reducible refine wg_intB ?_ | with_reducible refine wg_abs ?_ | with_reducible refine wg_max2 ?_ | with_reducible refine wg_min2 ?_ | with_reducible refine wg_reprB ?_ | with_reducible refine wg_itL ?_ | with_reducible refine wg_itT ?_ | with_reducible refine wg_itC ?_ | with_reducible refine wg_itS ?_ | with_reducible refine wg_slL ?_ | with_reducible refine wg_slT ?_ | with_reducible refine wg_tupleL ?_ | with_reducible refine wg_tupleT ?_ | with_reducible refine wg_listL ?_ | with_reducible refine wg_listT ?_ | with_reducible refine wg_revL ?_ | with_reducible refine wg_revT ?_ | with_reducible refine wg_zipT ?_ | with_reducible refine wg_allM ?_ | with_reducible refine wg_anyM ?_ | with_reducible refine w_var (by with_unfolding_all rfl) ?_ | with_reducible refine wg_mul (Or.inr (by decide)) ?_ | with_reducible refine wg_mul (Or.inl (by decide)) ?_ | with_reducible refine wg_mod (by decide +kernel) ?_ | with_reducible refine wg_fdiv (by decide) ?_ | with_reducible refine wg_pow (by decide +kernel) ?_ | with_reducible refine wg_tup (by simp; done) ?_ | with_reducible refine wg_lst (by simp; done) ?_ | with_reducible refine w_dieSet (by decide) ?_ | with_reducible refine w_dieAt (by decide) (fun _ => ?_) | refine ⟨_, rfl, ?_⟩ | refine ⟨rfl, ?_⟩))
    have hb : ∀ m : Nat, (if (if (m : Int) < 8 then (m : Int) else 8) > 1 then if (m : Int) < 8 then (m : Int) else 8 else 1) ≤ 8 ∧ (1 : Int) ≤ (if (if (m : Int) < 8 then (m : Int) else 8) > 1 then if (m : Int) < 8 then (m : Int) else 8 else 1) := by
      intro m
      split <;> split <;> omega
    have hb := hb ns.length
    revert hb
    generalize (if (if (ns.length : Int) < 8 then (ns.length : Int) else 8) > 1 then if (ns.length : Int) < 8 then (ns.length : Int) else 8 else 1) = top
    intro hb
    with_reducible refine wg_rng1 ⟨by omega, by omega⟩ ?_
    refine ws_forL (J := fun ds ρ => (∀ d ∈ ds, ∃ k : Nat, d = .int k) ∧ ρ.length = 2 ∧ ρ[0]? = some (.val (.scr ns))) ?_ ?_ _ _ ⟨?_, rfl, rfl⟩
    · rintro d ds ρ ⟨hds, hl, h0⟩
      obtain ⟨k, rfl⟩ := hds d List.mem_cons_self
      refine ⟨_, rfl, ?_⟩
      have e0 : (ρ.set 1 (Sl.val (.int k)))[0]? = some (.val (.scr ns)) := by rw [List.getElem?_set_ne (by decide)]; exact h0
      have e1 : (ρ.set 1 (Sl.val (.int k)))[1]? = some (.val (.int k)) := List.getElem?_set_self (by omega)
      refine ws_if (w_notB (w_b ?_))
      refine (w_call_new (P := fun r => r = .bl true) (fun S => ?_) fun n => w_right).imp (fun r hr => ?_) fun _ _ x => x
      · obtain ⟨S', e, hd⟩ := run_numbers ns k S
        refine ⟨S', ?_, hd⟩
        simp only [cCall, cA, cCons, cNil, bind_run, M.pure, cVar, e0, e1, List.length_cons, List.length_nil, Nat.reduceAdd, if_true, e]
      · subst hr
        refine ⟨_, rfl, fun h => (nomatch h), fun _ => ?_⟩
        (repeat (first | with_reducible refine ws_seq ?_ | with_reducible refine ws_asg ?_ | with_reducible refine ws_ret ?_ | with_reducible refine ws_if ?_ | with_reducible refine ws_next ?_ | with_reducible refine ws_retN ?_ | with_reducible refine ws_brk ?_ | with_reducible refine ws_cont ?_ | with_reducible refine ws_drop ?_ | with_reducible refine ws_setI ?_ | with_reducible refine ws_for ?_ | with_reducible refine ws_par ?_ | with_reducible refine ws_frz ?_ | with_reducible refine ws_parO ?_ | with_reducible refine ws_setOwn ?_ | with_reducible refine ⟨fun _ => ?_, fun z => absurd rfl z⟩ | refine And.intro rt_nx fun _ => ?_ | refine And.intro bk_nx fun _ => ?_ | refine And.intro ct_nx fun _ => ?_ | with_reducible refine w_c2 ?_ | with_reducible refine w_c1 ?_ | with_reducible refine w_cA ?_ | with_reducible refine w_cons ?_ | with_reducible refine w_nil ?_ | with_reducible refine w_c ?_ | with_reducible refine w_call ?_ | with_reducible refine w_it ?_ | with_reducible refine w_rng1 ?_ | with_reducible refine w_rng2 ?_ | with_reducible refine w_m0 ?_ | with_reducible refine w_m1 ?_ | with_reducible refine w_sl ?_ | with_reducible refine w_part ?_ | with_reducible refine w_noP ?_ | with_reducible refine w_b ?_ | with_reducible refine w_notB ?_ | with_reducible refine w_if ?_ | with_reducible refine w_chain ?_ | with_reducible refine w_zip ?_ | with_reducible refine w_enum ?_ | with_reducible refine wg_add ?_ | with_reducible refine wg_sub ?_ | with_reducible refine wg_neg ?_ | with_reducible refine wg_lt ?_ | with_reducible refine wg_le ?_ | with_reducible refine wg_gt ?_ | with_reducible refine wg_ge ?_ | with_reducible refine wg_not ?_ | with_reducible refine wg_lenL ?_ | with_reducible refine wg_lenT ?_ | with_reducible refine wg_lenC ?_ | with_reducible refine wg_int ?_ | with_reducible refine wg_intB ?_ | with_reducible refine wg_abs ?_ | with_reducible refine wg_max2 ?_ | with_reducible refine wg_min2 ?_ | with_reducible refine wg_reprB ?_ | with_reducible refine wg_itL ?_ | with_reducible refine wg_itT ?_ | with_reducible refine wg_itC ?_ | with_reducible refine wg_itS ?_ | with_reducible refine wg_slL ?_ | with_reducible refine wg_slT ?_ | with_reducible refine wg_tupleL ?_ | with_reducible refine wg_tupleT ?_ | with_reducible refine wg_listL ?_ | with_reducible refine wg_listT ?_ | with_reducible refine wg_revL ?_ | with_reducible refine wg_revT ?_ | with_reducible refine wg_zipT ?_ | with_reducible refine wg_allM ?_ | with_reducible refine wg_anyM ?_ | with_reducible refine w_var (by with_unfolding_all rfl) ?_ | with_reducible refine wg_mul (Or.inr (by decide)) ?_ | with_reducible refine wg_mul (Or.inl (by decide)) ?_ | with_reducible refine wg_mod (by decide +kernel) ?_ | with_reducible refine wg_fdiv (by decide) ?_ | with_reducible refine wg_pow (by decide +kernel) ?_ | with_reducible refine wg_tup (by simp; done) ?_ | with_reducible refine wg_lst (by simp; done) ?_ | with_reducible refine w_dieSet (by decide) ?_ | with_reducible refine w_dieAt (by decide) (fun _ => ?_) | refine ⟨_, rfl, ?_⟩ | refine ⟨rfl, ?_⟩))
        exact ⟨fun d hd => hds d (List.mem_cons_of_mem _ hd), by rw [List.length_set]; exact hl, e0⟩
    · rintro ρ ⟨_, hl, _⟩
      (repeat (first | with_reducible refine ws_seq ?_ | with_reducible refine ws_asg ?_ | with_reducible refine ws_ret ?_ | with_reducible refine ws_if ?_ | with_reducible refine ws_next ?_ | with_reducible refine ws_retN ?_ | with_reducible refine ws_brk ?_ | with_reducible refine ws_cont ?_ | with_reducible refine ws_drop ?_ | with_reducible refine ws_setI ?_ | with_reducible refine ws_for ?_ | with_reducible refine ws_par ?_ | with_reducible refine ws_frz ?_ | with_reducible refine ws_parO ?_ | with_reducible refine ws_setOwn ?_ | with_reducible refine ⟨fun _ => ?_, fun z => absurd rfl z⟩ | refine And.intro rt_nx fun _ => ?_ | refine And.intro bk_nx fun _ => ?_ | refine And.intro ct_nx fun _ => ?_ | with_reducible refine w_c2 ?_ | with_reducible refine w_c1 ?_ | with_reducible refine w_cA ?_ | with_reducible refine w_cons ?_ | with_reducible refine w_nil ?_ | with_reducible refine w_c ?_ | with_reducible refine w_call ?_ | with_reducible refine w_it ?_ | with_reducible refine w_rng1 ?_ | with_reducible refine w_rng2 ?_ | with_reducible refine w_m0 ?_ | with_reducible refine w_m1 ?_ | with_reducible refine w_sl ?_ | with_reducible refine w_part ?_ | with_reducible refine w_noP ?_ | with_reducible refine w_b ?_ | with_reducible refine w_notB ?_ | with_reducible refine w_if ?_ | with_reducible refine w_chain ?_ | with_reducible refine w_zip ?_ | with_reducible refine w_enum ?_ | with_reducible refine wg_add ?_ | with_reducible refine wg_sub ?_ | with_reducible refine wg_neg ?_ | with_reducible refine wg_lt ?_ | with_reducible refine wg_le ?_ | with_reducible refine wg_gt ?_ | with_reducible refine wg_ge ?_ | with_reducible refine wg_not ?_ | with_reducible refine wg_lenL ?_ | with_reducible refine wg_lenT ?_ | with_reducible refine wg_lenC ?_ | with_reducible refine wg_int ?_ | with_reducible refine wg_intB ?_ | with_reducible refine wg_abs ?_ | with_reducible refine wg_max2 ?_ | with_reducible refine wg_min2 ?_ | with_reducible refine wg_reprB ?_ | with_reducible refine wg_itL ?_ | with_reducible refine wg_itT ?_ | with_reducible refine wg_itC ?_ | with_reducible refine wg_itS ?_ | with_reducible refine wg_slL ?_ | with_reducible refine wg_slT ?_ | with_reducible refine wg_tupleL ?_ | with_reducible refine wg_tupleT ?_ | with_reducible refine wg_listL ?_ | with_reducible refine wg_listT ?_ | with_reducible refine wg_revL ?_ | with_reducible refine wg_revT ?_ | with_reducible refine wg_zipT ?_ | with_reducible refine wg_allM ?_ | with_reducible refine wg_anyM ?_ | with_reducible refine w_var (by with_unfolding_all rfl) ?_ | with_reducible refine wg_mul (Or.inr (by decide)) ?_ | with_reducible refine wg_mul (Or.inl (by decide)) ?_ | with_reducible refine wg_mod (by decide +kernel) ?_ | with_reducible refine wg_fdiv (by decide) ?_ | with_reducible refine wg_pow (by decide +kernel) ?_ | with_reducible refine wg_tup (by simp; done) ?_ | with_reducible refine wg_lst (by simp; done) ?_ | with_reducible refine w_dieSet (by decide) ?_ | with_reducible refine w_dieAt (by decide) (fun _ => ?_) | refine ⟨_, rfl, ?_⟩ | refine ⟨rfl, ?_⟩))
      rfl
    · intro d hd
      unfold rngD at hd
      obtain ⟨k, _, rfl⟩ := List.mem_map.mp hd
      exact ⟨k, by rw [Int.zero_add]⟩
  obtain ⟨a, S', e, rfl, _⟩ := h.run (S := []) trivial
  exact ⟨S', e⟩
end K00
namespace K00
open PySem PySem.Spec PyProof.Rows L2 DN
abbrev s_init_TooMany : Stmt := methSt (top 18) 0
theorem sc_init_TooMany : FnScope ["self", "limit"] ["self", "limit"] (defScope s_init_TooMany) := ⟨rfl, rfl, rfl, by decide +kernel, rfl, by decide +kernel, by decide +kernel⟩
abbrev s_init_Refused : Stmt := methSt (top 17) 0
theorem sc_init_Refused : FnScope ["self", "name"] ["self", "name"] (defScope s_init_Refused) := ⟨rfl, rfl, rfl, by decide +kernel, rfl, by decide +kernel, by decide +kernel⟩
abbrev s_init_NothingToUndo : Stmt := methSt (top 16) 0
theorem sc_init_NothingToUndo : FnScope ["self", "many"] ["self", "many"] (defScope s_init_NothingToUndo) := ⟨rfl, rfl, rfl, by decide +kernel, rfl, by decide +kernel, by decide +kernel⟩
abbrev s_init_InvalidNumber : Stmt := methSt (top 15) 0
theorem sc_init_InvalidNumber : FnScope ["self", "value"] ["self", "value"] (defScope s_init_InvalidNumber) := ⟨rfl, rfl, rfl, by decide +kernel, rfl, by decide +kernel, by decide +kernel⟩
abbrev s_init_UnknownSite : Stmt := methSt (top 14) 0
theorem sc_init_UnknownSite : FnScope ["self", "site"] ["self", "site"] (defScope s_init_UnknownSite) := ⟨rfl, rfl, rfl, by decide +kernel, rfl, by decide +kernel, by decide +kernel⟩
abbrev s_init_UnknownName : Stmt := methSt (top 13) 0
theorem sc_init_UnknownName : FnScope ["self", "name"] ["self", "name"] (defScope s_init_UnknownName) := ⟨rfl, rfl, rfl, by decide +kernel, rfl, by decide +kernel, by decide +kernel⟩
abbrev s_init_ParseError : Stmt := methSt (top 12) 0
theorem sc_init_ParseError : FnScope ["self", "line"] ["self", "line"] (defScope s_init_ParseError) := ⟨rfl, rfl, rfl, by decide +kernel, rfl, by decide +kernel, by decide +kernel⟩
theorem all_mk {l : PySem.W.OpenLaw} {q : Program} {w : World} {K : PySem.W.Frag} {h : Heap} {mg : Str → Option Value} {fa : Addr} (X : K.In h) (G : h.Ns mainGlobals mg) (hfa : mg "law" = some (.ref fa)) (own : ∀ (nm : Str) (f : Addr), ((recsOf q).any fun e => e.name == nm) = true → mg nm = some (.ref f) → LamX.OwnTab K f h)
    {od0 an0 : Option Addr} {sl0 : Array (Option Value)} {oc0 kV0 dc0 pm0 cd0 ct0 : Value} {f0 : Addr} {od1 an1 : Option Addr} {sl1 : Array (Option Value)} {oc1 kV1 dc1 pm1 cd1 ct1 : Value} {f1 : Addr} {od2 an2 : Option Addr} {sl2 : Array (Option Value)} {oc2 kV2 dc2 pm2 cd2 ct2 : Value} {f2 : Addr} {od3 an3 : Option Addr} {sl3 : Array (Option Value)} {oc3 kV3 dc3 pm3 cd3 ct3 : Value} {f3 : Addr} {od4 an4 : Option Addr} {sl4 : Array (Option Value)} {oc4 kV4 dc4 pm4 cd4 ct4 : Value} {f4 : Addr} {od5 an5 : Option Addr} {sl5 : Array (Option Value)} {oc5 kV5 dc5 pm5 cd5 ct5 : Value} {f5 : Addr} {od6 an6 : Option Addr} {sl6 : Array (Option Value)} {oc6 kV6 dc6 pm6 cd6 ct6 : Value} {f6 : Addr} {od7 an7 : Option Addr} {sl7 : Array (Option Value)} {oc7 kV7 dc7 pm7 cd7 ct7 : Value} {f7 : Addr} {e_TooMany fI_TooMany : Addr} {nm_TooMany q_TooMany : Str} {N_TooMany : Addr} {bs_TooMany bm_TooMany : List Value} {sl_TooMany : List Str} {sub_TooMany : List Value} {ab_TooMany : Bool} {col_TooMany : Option Bool} {dd_TooMany : Option Addr} {k0_TooMany k1_TooMany k2_TooMany k3_TooMany k5_TooMany : Option Value} {new_TooMany b1_TooMany b2_TooMany : String} {od_TooMany an_TooMany : Option Addr} {osl_TooMany : Array (Option Value)} {oc_TooMany kV_TooMany dc_TooMany pm_TooMany cd_TooMany ct_TooMany : Value} {e_Refused fI_Refused : Addr} {nm_Refused q_Refused : Str} {N_Refused : Addr} {bs_Refused bm_Refused : List Value} {sl_Refused : List Str} {sub_Refused : List Value} {ab_Refused : Bool} {col_Refused : Option Bool} {dd_Refused : Option Addr} {k0_Refused k1_Refused k2_Refused k3_Refused k5_Refused : Option Value} {new_Refused b1_Refused b2_Refused : String} {od_Refused an_Refused : Option Addr} {osl_Refused : Array (Option Value)} {oc_Refused kV_Refused dc_Refused pm_Refused cd_Refused ct_Refused : Value} {e_NothingToUndo fI_NothingToUndo : Addr} {nm_NothingToUndo q_NothingToUndo : Str} {N_NothingToUndo : Addr} {bs_NothingToUndo bm_NothingToUndo : List Value} {sl_NothingToUndo : List Str} {sub_NothingToUndo : List Value} {ab_NothingToUndo : Bool} {col_NothingToUndo : Option Bool} {dd_NothingToUndo : Option Addr} {k0_NothingToUndo k1_NothingToUndo k2_NothingToUndo k3_NothingToUndo k5_NothingToUndo : Option Value} {new_NothingToUndo b1_NothingToUndo b2_NothingToUndo : String} {od_NothingToUndo an_NothingToUndo : Option Addr} {osl_NothingToUndo : Array (Option Value)} {oc_NothingToUndo kV_NothingToUndo dc_NothingToUndo pm_NothingToUndo cd_NothingToUndo ct_NothingToUndo : Value} {e_InvalidNumber fI_InvalidNumber : Addr} {nm_InvalidNumber q_InvalidNumber : Str} {N_InvalidNumber : Addr} {bs_InvalidNumber bm_InvalidNumber : List Value} {sl_InvalidNumber : List Str} {sub_InvalidNumber : List Value} {ab_InvalidNumber : Bool} {col_InvalidNumber : Option Bool} {dd_InvalidNumber : Option Addr} {k0_InvalidNumber k1_InvalidNumber k2_InvalidNumber k3_InvalidNumber k5_InvalidNumber : Option Value} {new_InvalidNumber b1_InvalidNumber b2_InvalidNumber : String} {od_InvalidNumber an_InvalidNumber : Option Addr} {osl_InvalidNumber : Array (Option Value)} {oc_InvalidNumber kV_InvalidNumber dc_InvalidNumber pm_InvalidNumber cd_InvalidNumber ct_InvalidNumber : Value} {e_UnknownSite fI_UnknownSite : Addr} {nm_UnknownSite q_UnknownSite : Str} {N_UnknownSite : Addr} {bs_UnknownSite bm_UnknownSite : List Value} {sl_UnknownSite : List Str} {sub_UnknownSite : List Value} {ab_UnknownSite : Bool} {col_UnknownSite : Option Bool} {dd_UnknownSite : Option Addr} {k0_UnknownSite k1_UnknownSite k2_UnknownSite k3_UnknownSite k5_UnknownSite : Option Value} {new_UnknownSite b1_UnknownSite b2_UnknownSite : String} {od_UnknownSite an_UnknownSite : Option Addr} {osl_UnknownSite : Array (Option Value)} {oc_UnknownSite kV_UnknownSite dc_UnknownSite pm_UnknownSite cd_UnknownSite ct_UnknownSite : Value} {e_UnknownName fI_UnknownName : Addr} {nm_UnknownName q_UnknownName : Str} {N_UnknownName : Addr} {bs_UnknownName bm_UnknownName : List Value} {sl_UnknownName : List Str} {sub_UnknownName : List Value} {ab_UnknownName : Bool} {col_UnknownName : Option Bool} {dd_UnknownName : Option Addr} {k0_UnknownName k1_UnknownName k2_UnknownName k3_UnknownName k5_UnknownName : Option Value} {new_UnknownName b1_UnknownName b2_UnknownName : String} {od_UnknownName an_UnknownName : Option Addr} {osl_UnknownName : Array (Option Value)} {oc_UnknownName kV_UnknownName dc_UnknownName pm_UnknownName cd_UnknownName ct_UnknownName : Value} {eb_BagError : Addr} {e_ParseError fI_ParseError : Addr} {nm_ParseError q_ParseError : Str} {N_ParseError : Addr} {bs_ParseError bm_ParseError : List Value} {sl_ParseError : List Str} {sub_ParseError : List Value} {ab_ParseError : Bool} {col_ParseError : Option Bool} {dd_ParseError : Option Addr} {k0_ParseError k1_ParseError k2_ParseError k3_ParseError k5_ParseError : Option Value} {new_ParseError b1_ParseError b2_ParseError : String} {od_ParseError an_ParseError : Option Addr} {osl_ParseError : Array (Option Value)} {oc_ParseError kV_ParseError dc_ParseError pm_ParseError cd_ParseError ct_ParseError : Value}
    (a0 : PySem.W.nsIn K mainGlobals "_law_numbers" = some (some (.ref f0)))
    (l0 : K.lookup f0 = some ⟨oc0, od0, .func (PySem.W.fnOf "_law_numbers" "_law_numbers" (defArgs s_law_numbers) (defBody s_law_numbers) (defScope s_law_numbers) .none kV0 dc0 pm0 an0 cd0 ct0), sl0⟩)
    (c0 : PySem.W.codeIn K cd0 "_law_numbers" = true)
    (k0 : PySem.W.keepIn K (.ref f0) = true)
    (a1 : PySem.W.nsIn K mainGlobals "_law_cast" = some (some (.ref f1)))
    (l1 : K.lookup f1 = some ⟨oc1, od1, .func (PySem.W.fnOf "_law_cast" "_law_cast" (defArgs s_law_cast) (defBody s_law_cast) (defScope s_law_cast) .none kV1 dc1 pm1 an1 cd1 ct1), sl1⟩)
    (c1 : PySem.W.codeIn K cd1 "_law_cast" = true)
    (k1 : PySem.W.keepIn K (.ref f1) = true)
    (a2 : PySem.W.nsIn K mainGlobals "_law_pick" = some (some (.ref f2)))
    (l2 : K.lookup f2 = some ⟨oc2, od2, .func (PySem.W.fnOf "_law_pick" "_law_pick" (defArgs s_law_pick) (defBody s_law_pick) (defScope s_law_pick) .none kV2 dc2 pm2 an2 cd2 ct2), sl2⟩)
    (c2 : PySem.W.codeIn K cd2 "_law_pick" = true)
    (k2 : PySem.W.keepIn K (.ref f2) = true)
    (a3 : PySem.W.nsIn K mainGlobals "_law_of_bags" = some (some (.ref f3)))
    (l3 : K.lookup f3 = some ⟨oc3, od3, .func (PySem.W.fnOf "_law_of_bags" "_law_of_bags" (defArgs s_law_of_bags) (defBody s_law_of_bags) (defScope s_law_of_bags) .none kV3 dc3 pm3 an3 cd3 ct3), sl3⟩)
    (c3 : PySem.W.codeIn K cd3 "_law_of_bags" = true)
    (k3 : PySem.W.keepIn K (.ref f3) = true)
    (a4 : PySem.W.nsIn K mainGlobals "_law_of_others" = some (some (.ref f4)))
    (l4 : K.lookup f4 = some ⟨oc4, od4, .func (PySem.W.fnOf "_law_of_others" "_law_of_others" (defArgs s_law_of_others) (defBody s_law_of_others) (defScope s_law_of_others) .none kV4 dc4 pm4 an4 cd4 ct4), sl4⟩)
    (c4 : PySem.W.codeIn K cd4 "_law_of_others" = true)
    (k4 : PySem.W.keepIn K (.ref f4) = true)
    (a5 : PySem.W.nsIn K mainGlobals "_law_plain_ones" = some (some (.ref f5)))
    (l5 : K.lookup f5 = some ⟨oc5, od5, .func (PySem.W.fnOf "_law_plain_ones" "_law_plain_ones" (defArgs s_law_plain_ones) (defBody s_law_plain_ones) (defScope s_law_plain_ones) .none kV5 dc5 pm5 an5 cd5 ct5), sl5⟩)
    (c5 : PySem.W.codeIn K cd5 "_law_plain_ones" = true)
    (k5 : PySem.W.keepIn K (.ref f5) = true)
    (a6 : PySem.W.nsIn K mainGlobals "_law_right" = some (some (.ref f6)))
    (l6 : K.lookup f6 = some ⟨oc6, od6, .func (PySem.W.fnOf "_law_right" "_law_right" (defArgs s_law_right) (defBody s_law_right) (defScope s_law_right) .none kV6 dc6 pm6 an6 cd6 ct6), sl6⟩)
    (c6 : PySem.W.codeIn K cd6 "_law_right" = true)
    (k6 : PySem.W.keepIn K (.ref f6) = true)
    (a7 : PySem.W.nsIn K mainGlobals "law" = some (some (.ref f7)))
    (l7 : K.lookup f7 = some ⟨oc7, od7, .func (PySem.W.fnOf "law" "law" (defArgs s_law) (defBody s_law) (defScope s_law) .none kV7 dc7 pm7 an7 cd7 ct7), sl7⟩)
    (c7 : PySem.W.codeIn K cd7 "law" = true)
    (k7 : PySem.W.keepIn K (.ref f7) = true)
    (z_ArithmeticError : PySem.W.nsIn K mainGlobals "ArithmeticError" = some none)
    (z_IndexError : PySem.W.nsIn K mainGlobals "IndexError" = some none)
    (z_KeyError : PySem.W.nsIn K mainGlobals "KeyError" = some none)
    (z_LookupError : PySem.W.nsIn K mainGlobals "LookupError" = some none)
    (z_OverflowError : PySem.W.nsIn K mainGlobals "OverflowError" = some none)
    (z_ValueError : PySem.W.nsIn K mainGlobals "ValueError" = some none)
    (z_abs : PySem.W.nsIn K mainGlobals "abs" = some none)
    (z_int : PySem.W.nsIn K mainGlobals "int" = some none)
    (z_isinstance : PySem.W.nsIn K mainGlobals "isinstance" = some none)
    (z_len : PySem.W.nsIn K mainGlobals "len" = some none)
    (z_max : PySem.W.nsIn K mainGlobals "max" = some none)
    (z_min : PySem.W.nsIn K mainGlobals "min" = some none)
    (z_range : PySem.W.nsIn K mainGlobals "range" = some none)
    (z_repr : PySem.W.nsIn K mainGlobals "repr" = some none)
    (v_InvalidCommand : onCls K "InvalidCommand" (exvB K) = true)
    (v_InvalidOperation : onCls K "InvalidOperation" (exvB K) = true)
    (v_InvalidPlan : onCls K "InvalidPlan" (exvB K) = true)
    (v_InvalidUses : onCls K "InvalidUses" (exvB K) = true)
    (v_InvalidPlace : onCls K "InvalidPlace" (exvB K) = true)
    (v_InvalidWay : onCls K "InvalidWay" (exvB K) = true)
    (v_InvalidRun : onCls K "InvalidRun" (exvB K) = true)
    (v_InvalidMode : onCls K "InvalidMode" (exvB K) = true)
    (v_InvalidBag : onCls K "InvalidBag" (exvB K) = true)
    (v_InvalidProgram : onCls K "InvalidProgram" (exvB K) = true)
    (v_BagError : onCls K "BagError" (exvB K) = true)
    (xc : xcB K xcls = true)
    (is_ParseError : isOwnB K "ParseError" tab_ParseError = true)
    (is_InvalidCommand : isOwnB K "InvalidCommand" tab_InvalidCommand = true)
    (is_InvalidOperation : isOwnB K "InvalidOperation" tab_InvalidOperation = true)
    (is_InvalidPlan : isOwnB K "InvalidPlan" tab_InvalidPlan = true)
    (is_InvalidUses : isOwnB K "InvalidUses" tab_InvalidUses = true)
    (is_InvalidPlace : isOwnB K "InvalidPlace" tab_InvalidPlace = true)
    (is_InvalidWay : isOwnB K "InvalidWay" tab_InvalidWay = true)
    (is_InvalidRun : isOwnB K "InvalidRun" tab_InvalidRun = true)
    (is_InvalidMode : isOwnB K "InvalidMode" tab_InvalidMode = true)
    (is_InvalidBag : isOwnB K "InvalidBag" tab_InvalidBag = true)
    (is_InvalidProgram : isOwnB K "InvalidProgram" tab_InvalidProgram = true)
    (is_BagError : isOwnB K "BagError" tab_BagError = true)
    (is_OverflowError : isTabB K (.type "OverflowError") tab_OverflowError = true)
    (is_ArithmeticError : isTabB K (.type "ArithmeticError") tab_ArithmeticError = true)
    (is_LookupError : isTabB K (.type "LookupError") tab_LookupError = true)
    (is_IndexError : isTabB K (.type "IndexError") tab_IndexError = true)
    (is_ValueError : isTabB K (.type "ValueError") tab_ValueError = true)
    (is_KeyError : isTabB K (.type "KeyError") tab_KeyError = true)
    (is_Refused : isOwnB K "Refused" tab_Refused = true)
    (is_TooMany : isOwnB K "TooMany" tab_TooMany = true)
    (is_NothingToUndo : isOwnB K "NothingToUndo" tab_NothingToUndo = true)
    (is_InvalidNumber : isOwnB K "InvalidNumber" tab_InvalidNumber = true)
    (is_UnknownName : isOwnB K "UnknownName" tab_UnknownName = true)
    (is_UnknownSite : isOwnB K "UnknownSite" tab_UnknownSite = true)
    (fl_limit : fldB K "limit" fc_limit = true)
    (fl_name : fldB K "name" fc_name = true)
    (fl_many : fldB K "many" fc_many = true)
    (fl_value : fldB K "value" fc_value = true)
    (fl_site : fldB K "site" fc_site = true)
    (fl_line : fldB K "line" fc_line = true)
    (mc_OverflowError : PySem.W.findCls K (.type "OverflowError") (.type "type") "__init__" = some (.val (.builtin "OverflowError.__init__")))
    (m1_TooMany : PySem.W.nsIn K mainGlobals "TooMany" = some (some (.ref e_TooMany)))
    (m2_TooMany : K.lookup e_TooMany = some (excClassObj nm_TooMany q_TooMany e_TooMany N_TooMany bs_TooMany bm_TooMany true sl_TooMany sub_TooMany ab_TooMany col_TooMany dd_TooMany k0_TooMany k1_TooMany k2_TooMany k3_TooMany k5_TooMany new_TooMany))
    (m3_TooMany : XM.XB b1_TooMany new_TooMany b2_TooMany "OverflowError.__init__" bm_TooMany)
    (m4_TooMany : PySem.W.findIn K (.ref e_TooMany) "__setattr__" = some (some (.builtin "object.__setattr__")))
    (m5_TooMany : PySem.W.findIn K (.ref e_TooMany) "__init__" = some (some (.ref fI_TooMany)))
    (m6_TooMany : PySem.W.typeIn K (.ref fI_TooMany) = some (.type "function"))
    (m7_TooMany : PySem.W.findIn K (.ref e_TooMany) "limit" = some none)
    (m8_TooMany : K.lookup fI_TooMany = some ⟨oc_TooMany, od_TooMany, .func (PySem.W.fnOf "__init__" "TooMany.__init__" (defArgs s_init_TooMany) (defBody s_init_TooMany) (defScope s_init_TooMany) .none kV_TooMany dc_TooMany pm_TooMany an_TooMany cd_TooMany ct_TooMany), osl_TooMany⟩)
    (m9_TooMany : PySem.W.codeIn K cd_TooMany "TooMany.__init__" = true)
    (ma_TooMany : PySem.W.keepIn K (.ref fI_TooMany) = true)
    (mb_TooMany : PySem.W.keepIn K (.ref e_TooMany) = true)
    (mc_ArithmeticError : PySem.W.findCls K (.type "ArithmeticError") (.type "type") "__init__" = some (.val (.builtin "ArithmeticError.__init__")))
    (m1_Refused : PySem.W.nsIn K mainGlobals "Refused" = some (some (.ref e_Refused)))
    (m2_Refused : K.lookup e_Refused = some (excClassObj nm_Refused q_Refused e_Refused N_Refused bs_Refused bm_Refused true sl_Refused sub_Refused ab_Refused col_Refused dd_Refused k0_Refused k1_Refused k2_Refused k3_Refused k5_Refused new_Refused))
    (m3_Refused : XM.XB b1_Refused new_Refused b2_Refused "ArithmeticError.__init__" bm_Refused)
    (m4_Refused : PySem.W.findIn K (.ref e_Refused) "__setattr__" = some (some (.builtin "object.__setattr__")))
    (m5_Refused : PySem.W.findIn K (.ref e_Refused) "__init__" = some (some (.ref fI_Refused)))
    (m6_Refused : PySem.W.typeIn K (.ref fI_Refused) = some (.type "function"))
    (m7_Refused : PySem.W.findIn K (.ref e_Refused) "name" = some none)
    (m8_Refused : K.lookup fI_Refused = some ⟨oc_Refused, od_Refused, .func (PySem.W.fnOf "__init__" "Refused.__init__" (defArgs s_init_Refused) (defBody s_init_Refused) (defScope s_init_Refused) .none kV_Refused dc_Refused pm_Refused an_Refused cd_Refused ct_Refused), osl_Refused⟩)
    (m9_Refused : PySem.W.codeIn K cd_Refused "Refused.__init__" = true)
    (ma_Refused : PySem.W.keepIn K (.ref fI_Refused) = true)
    (mb_Refused : PySem.W.keepIn K (.ref e_Refused) = true)
    (mc_LookupError : PySem.W.findCls K (.type "LookupError") (.type "type") "__init__" = some (.val (.builtin "LookupError.__init__")))
    (m1_NothingToUndo : PySem.W.nsIn K mainGlobals "NothingToUndo" = some (some (.ref e_NothingToUndo)))
    (m2_NothingToUndo : K.lookup e_NothingToUndo = some (excClassObj nm_NothingToUndo q_NothingToUndo e_NothingToUndo N_NothingToUndo bs_NothingToUndo bm_NothingToUndo true sl_NothingToUndo sub_NothingToUndo ab_NothingToUndo col_NothingToUndo dd_NothingToUndo k0_NothingToUndo k1_NothingToUndo k2_NothingToUndo k3_NothingToUndo k5_NothingToUndo new_NothingToUndo))
    (m3_NothingToUndo : XM.XB b1_NothingToUndo new_NothingToUndo b2_NothingToUndo "LookupError.__init__" bm_NothingToUndo)
    (m4_NothingToUndo : PySem.W.findIn K (.ref e_NothingToUndo) "__setattr__" = some (some (.builtin "object.__setattr__")))
    (m5_NothingToUndo : PySem.W.findIn K (.ref e_NothingToUndo) "__init__" = some (some (.ref fI_NothingToUndo)))
    (m6_NothingToUndo : PySem.W.typeIn K (.ref fI_NothingToUndo) = some (.type "function"))
    (m7_NothingToUndo : PySem.W.findIn K (.ref e_NothingToUndo) "many" = some none)
    (m8_NothingToUndo : K.lookup fI_NothingToUndo = some ⟨oc_NothingToUndo, od_NothingToUndo, .func (PySem.W.fnOf "__init__" "NothingToUndo.__init__" (defArgs s_init_NothingToUndo) (defBody s_init_NothingToUndo) (defScope s_init_NothingToUndo) .none kV_NothingToUndo dc_NothingToUndo pm_NothingToUndo an_NothingToUndo cd_NothingToUndo ct_NothingToUndo), osl_NothingToUndo⟩)
    (m9_NothingToUndo : PySem.W.codeIn K cd_NothingToUndo "NothingToUndo.__init__" = true)
    (ma_NothingToUndo : PySem.W.keepIn K (.ref fI_NothingToUndo) = true)
    (mb_NothingToUndo : PySem.W.keepIn K (.ref e_NothingToUndo) = true)
    (mc_IndexError : PySem.W.findCls K (.type "IndexError") (.type "type") "__init__" = some (.val (.builtin "IndexError.__init__")))
    (m1_InvalidNumber : PySem.W.nsIn K mainGlobals "InvalidNumber" = some (some (.ref e_InvalidNumber)))
    (m2_InvalidNumber : K.lookup e_InvalidNumber = some (excClassObj nm_InvalidNumber q_InvalidNumber e_InvalidNumber N_InvalidNumber bs_InvalidNumber bm_InvalidNumber true sl_InvalidNumber sub_InvalidNumber ab_InvalidNumber col_InvalidNumber dd_InvalidNumber k0_InvalidNumber k1_InvalidNumber k2_InvalidNumber k3_InvalidNumber k5_InvalidNumber new_InvalidNumber))
    (m3_InvalidNumber : XM.XB b1_InvalidNumber new_InvalidNumber b2_InvalidNumber "IndexError.__init__" bm_InvalidNumber)
    (m4_InvalidNumber : PySem.W.findIn K (.ref e_InvalidNumber) "__setattr__" = some (some (.builtin "object.__setattr__")))
    (m5_InvalidNumber : PySem.W.findIn K (.ref e_InvalidNumber) "__init__" = some (some (.ref fI_InvalidNumber)))
    (m6_InvalidNumber : PySem.W.typeIn K (.ref fI_InvalidNumber) = some (.type "function"))
    (m7_InvalidNumber : PySem.W.findIn K (.ref e_InvalidNumber) "value" = some none)
    (m8_InvalidNumber : K.lookup fI_InvalidNumber = some ⟨oc_InvalidNumber, od_InvalidNumber, .func (PySem.W.fnOf "__init__" "InvalidNumber.__init__" (defArgs s_init_InvalidNumber) (defBody s_init_InvalidNumber) (defScope s_init_InvalidNumber) .none kV_InvalidNumber dc_InvalidNumber pm_InvalidNumber an_InvalidNumber cd_InvalidNumber ct_InvalidNumber), osl_InvalidNumber⟩)
    (m9_InvalidNumber : PySem.W.codeIn K cd_InvalidNumber "InvalidNumber.__init__" = true)
    (ma_InvalidNumber : PySem.W.keepIn K (.ref fI_InvalidNumber) = true)
    (mb_InvalidNumber : PySem.W.keepIn K (.ref e_InvalidNumber) = true)
    (mc_KeyError : PySem.W.findCls K (.type "KeyError") (.type "type") "__init__" = some (.val (.builtin "KeyError.__init__")))
    (m1_UnknownSite : PySem.W.nsIn K mainGlobals "UnknownSite" = some (some (.ref e_UnknownSite)))
    (m2_UnknownSite : K.lookup e_UnknownSite = some (excClassObj nm_UnknownSite q_UnknownSite e_UnknownSite N_UnknownSite bs_UnknownSite bm_UnknownSite true sl_UnknownSite sub_UnknownSite ab_UnknownSite col_UnknownSite dd_UnknownSite k0_UnknownSite k1_UnknownSite k2_UnknownSite k3_UnknownSite k5_UnknownSite new_UnknownSite))
    (m3_UnknownSite : XM.XB b1_UnknownSite new_UnknownSite b2_UnknownSite "KeyError.__init__" bm_UnknownSite)
    (m4_UnknownSite : PySem.W.findIn K (.ref e_UnknownSite) "__setattr__" = some (some (.builtin "object.__setattr__")))
    (m5_UnknownSite : PySem.W.findIn K (.ref e_UnknownSite) "__init__" = some (some (.ref fI_UnknownSite)))
    (m6_UnknownSite : PySem.W.typeIn K (.ref fI_UnknownSite) = some (.type "function"))
    (m7_UnknownSite : PySem.W.findIn K (.ref e_UnknownSite) "site" = some none)
    (m8_UnknownSite : K.lookup fI_UnknownSite = some ⟨oc_UnknownSite, od_UnknownSite, .func (PySem.W.fnOf "__init__" "UnknownSite.__init__" (defArgs s_init_UnknownSite) (defBody s_init_UnknownSite) (defScope s_init_UnknownSite) .none kV_UnknownSite dc_UnknownSite pm_UnknownSite an_UnknownSite cd_UnknownSite ct_UnknownSite), osl_UnknownSite⟩)
    (m9_UnknownSite : PySem.W.codeIn K cd_UnknownSite "UnknownSite.__init__" = true)
    (ma_UnknownSite : PySem.W.keepIn K (.ref fI_UnknownSite) = true)
    (mb_UnknownSite : PySem.W.keepIn K (.ref e_UnknownSite) = true)
    (m1_UnknownName : PySem.W.nsIn K mainGlobals "UnknownName" = some (some (.ref e_UnknownName)))
    (m2_UnknownName : K.lookup e_UnknownName = some (excClassObj nm_UnknownName q_UnknownName e_UnknownName N_UnknownName bs_UnknownName bm_UnknownName true sl_UnknownName sub_UnknownName ab_UnknownName col_UnknownName dd_UnknownName k0_UnknownName k1_UnknownName k2_UnknownName k3_UnknownName k5_UnknownName new_UnknownName))
    (m3_UnknownName : XM.XB b1_UnknownName new_UnknownName b2_UnknownName "KeyError.__init__" bm_UnknownName)
    (m4_UnknownName : PySem.W.findIn K (.ref e_UnknownName) "__setattr__" = some (some (.builtin "object.__setattr__")))
    (m5_UnknownName : PySem.W.findIn K (.ref e_UnknownName) "__init__" = some (some (.ref fI_UnknownName)))
    (m6_UnknownName : PySem.W.typeIn K (.ref fI_UnknownName) = some (.type "function"))
    (m7_UnknownName : PySem.W.findIn K (.ref e_UnknownName) "name" = some none)
    (m8_UnknownName : K.lookup fI_UnknownName = some ⟨oc_UnknownName, od_UnknownName, .func (PySem.W.fnOf "__init__" "UnknownName.__init__" (defArgs s_init_UnknownName) (defBody s_init_UnknownName) (defScope s_init_UnknownName) .none kV_UnknownName dc_UnknownName pm_UnknownName an_UnknownName cd_UnknownName ct_UnknownName), osl_UnknownName⟩)
    (m9_UnknownName : PySem.W.codeIn K cd_UnknownName "UnknownName.__init__" = true)
    (ma_UnknownName : PySem.W.keepIn K (.ref fI_UnknownName) = true)
    (mb_UnknownName : PySem.W.keepIn K (.ref e_UnknownName) = true)
    (mn_BagError : PySem.W.nsIn K mainGlobals "BagError" = some (some (.ref eb_BagError)))
    (mc_BagError : PySem.W.findCls K (.ref eb_BagError) (.type "type") "__init__" = some (.val (.builtin "ValueError.__init__")))
    (md_BagError : PySem.W.specialIn K (.ref eb_BagError) "__getattribute__" = some (some (.builtin "type.__getattribute__")))
    (me_BagError : PySem.W.readsIn K eb_BagError (.type "type") = true)
    (m1_ParseError : PySem.W.nsIn K mainGlobals "ParseError" = some (some (.ref e_ParseError)))
    (m2_ParseError : K.lookup e_ParseError = some (excClassObj nm_ParseError q_ParseError e_ParseError N_ParseError bs_ParseError bm_ParseError true sl_ParseError sub_ParseError ab_ParseError col_ParseError dd_ParseError k0_ParseError k1_ParseError k2_ParseError k3_ParseError k5_ParseError new_ParseError))
    (m3_ParseError : XM.XB b1_ParseError new_ParseError b2_ParseError "ValueError.__init__" bm_ParseError)
    (m4_ParseError : PySem.W.findIn K (.ref e_ParseError) "__setattr__" = some (some (.builtin "object.__setattr__")))
    (m5_ParseError : PySem.W.findIn K (.ref e_ParseError) "__init__" = some (some (.ref fI_ParseError)))
    (m6_ParseError : PySem.W.typeIn K (.ref fI_ParseError) = some (.type "function"))
    (m7_ParseError : PySem.W.findIn K (.ref e_ParseError) "line" = some none)
    (m8_ParseError : K.lookup fI_ParseError = some ⟨oc_ParseError, od_ParseError, .func (PySem.W.fnOf "__init__" "ParseError.__init__" (defArgs s_init_ParseError) (defBody s_init_ParseError) (defScope s_init_ParseError) .none kV_ParseError dc_ParseError pm_ParseError an_ParseError cd_ParseError ct_ParseError), osl_ParseError⟩)
    (m9_ParseError : PySem.W.codeIn K cd_ParseError "ParseError.__init__" = true)
    (ma_ParseError : PySem.W.keepIn K (.ref fI_ParseError) = true)
    (mb_ParseError : PySem.W.keepIn K (.ref e_ParseError) = true)
    : ∃ (fd : FuncData) (cs : List (Addr × Addr)) (cl : Cls_), (∀ p ∈ cs, h.get? p.2 = some { cls := .none, data := .fields #[] }) ∧ (∀ p ∈ cs, K.lookup p.2 = none) ∧ (∀ p ∈ cs, PySem.W.CodeHd h p.1 p.2) ∧ (∀ p ∈ cl.T, p.1 ∈ cs.map (·.2)) ∧ (∀ (s : Shared) (u : Value), BindsTo s fd ⟨[u], []⟩ [("script", u)]) ∧
      ∀ base : Heap, K.In base → base.Ns mainGlobals mg → (∀ p ∈ cs, LamX.TabB base mg p.1 p.2) → FnG l.prog w K mg base cl 4 fa fd ["script"] F_law := by
  have e := hfa.symm.trans (PySem.W.mg_of X G a7)
  cases e
  have T : Txt mg := ⟨PySem.W.mg_none_of X G z_ArithmeticError, PySem.W.mg_none_of X G z_IndexError, PySem.W.mg_none_of X G z_KeyError, PySem.W.mg_none_of X G z_LookupError, PySem.W.mg_none_of X G z_OverflowError, PySem.W.mg_none_of X G z_ValueError, PySem.W.mg_none_of X G z_abs, PySem.W.mg_none_of X G z_int, PySem.W.mg_none_of X G z_isinstance, PySem.W.mg_none_of X G z_len, PySem.W.mg_none_of X G z_max, PySem.W.mg_none_of X G z_min, PySem.W.mg_none_of X G z_range, PySem.W.mg_none_of X G z_repr⟩
  have G0 := fun_mk (st := s_law_numbers) l0 c0 k0
  have D0 : Fd K mg "_law_numbers" "_law_numbers" s_law_numbers ["script", "at"] := ⟨_, _, G0, PySem.W.mg_of X G a0, k0, G0.binds (ps := ["script", "at"]) fun _ _ _ _ _ _ us hl => match us, hl with | [_, _], _ => rfl⟩
  have G1 := fun_mk (st := s_law_cast) l1 c1 k1
  have D1 : Fd K mg "_law_cast" "_law_cast" s_law_cast ["die", "total"] := ⟨_, _, G1, PySem.W.mg_of X G a1, k1, G1.binds (ps := ["die", "total"]) fun _ _ _ _ _ _ us hl => match us, hl with | [_, _], _ => rfl⟩
  have G2 := fun_mk (st := s_law_pick) l2 c2 k2
  have D2 : Fd K mg "_law_pick" "_law_pick" s_law_pick ["die", "items"] := ⟨_, _, G2, PySem.W.mg_of X G a2, k2, G2.binds (ps := ["die", "items"]) fun _ _ _ _ _ _ us hl => match us, hl with | [_, _], _ => rfl⟩
  have G3 := fun_mk (st := s_law_of_bags) l3 c3 k3
  have D3 : Fd K mg "_law_of_bags" "_law_of_bags" s_law_of_bags ["error"] := ⟨_, _, G3, PySem.W.mg_of X G a3, k3, G3.binds (ps := ["error"]) fun _ _ _ _ _ _ us hl => match us, hl with | [_], _ => rfl⟩
  have G4 := fun_mk (st := s_law_of_others) l4 c4 k4
  have D4 : Fd K mg "_law_of_others" "_law_of_others" s_law_of_others ["error"] := ⟨_, _, G4, PySem.W.mg_of X G a4, k4, G4.binds (ps := ["error"]) fun _ _ _ _ _ _ us hl => match us, hl with | [_], _ => rfl⟩
  have G5 := fun_mk (st := s_law_plain_ones) l5 c5 k5
  have D5 : Fd K mg "_law_plain_ones" "_law_plain_ones" s_law_plain_ones ["word"] := ⟨_, _, G5, PySem.W.mg_of X G a5, k5, G5.binds (ps := ["word"]) fun _ _ _ _ _ _ us hl => match us, hl with | [_], _ => rfl⟩
  have G6 := fun_mk (st := s_law_right) l6 c6 k6
  have D6 : Fd K mg "_law_right" "_law_right" s_law_right ["die"] := ⟨_, _, G6, PySem.W.mg_of X G a6, k6, G6.binds (ps := ["die"]) fun _ _ _ _ _ _ us hl => match us, hl with | [_], _ => rfl⟩
  have G7 := fun_mk (st := s_law) l7 c7 k7
  obtain ⟨e_InvalidCommand, V_InvalidCommand⟩ := exV_ok (TT := []) X G v_InvalidCommand
  obtain ⟨e_InvalidOperation, V_InvalidOperation⟩ := exV_ok (TT := []) X G v_InvalidOperation
  obtain ⟨e_InvalidPlan, V_InvalidPlan⟩ := exV_ok (TT := []) X G v_InvalidPlan
  obtain ⟨e_InvalidUses, V_InvalidUses⟩ := exV_ok (TT := []) X G v_InvalidUses
  obtain ⟨e_InvalidPlace, V_InvalidPlace⟩ := exV_ok (TT := []) X G v_InvalidPlace
  obtain ⟨e_InvalidWay, V_InvalidWay⟩ := exV_ok (TT := []) X G v_InvalidWay
  obtain ⟨e_InvalidRun, V_InvalidRun⟩ := exV_ok (TT := []) X G v_InvalidRun
  obtain ⟨e_InvalidMode, V_InvalidMode⟩ := exV_ok (TT := []) X G v_InvalidMode
  obtain ⟨e_InvalidBag, V_InvalidBag⟩ := exV_ok (TT := []) X G v_InvalidBag
  obtain ⟨e_InvalidProgram, V_InvalidProgram⟩ := exV_ok (TT := []) X G v_InvalidProgram
  obtain ⟨e_BagError, V_BagError⟩ := exV_ok (TT := []) X G v_BagError
  have IS_ParseError : IsV K mg (⟨clN K, []⟩ : Cls_) "ParseError" tab_ParseError := isV_own X G is_ParseError xc (by decide +kernel)
  have IS_InvalidCommand : IsV K mg (⟨clN K, []⟩ : Cls_) "InvalidCommand" tab_InvalidCommand := isV_own X G is_InvalidCommand xc (by decide +kernel)
  have IS_InvalidOperation : IsV K mg (⟨clN K, []⟩ : Cls_) "InvalidOperation" tab_InvalidOperation := isV_own X G is_InvalidOperation xc (by decide +kernel)
  have IS_InvalidPlan : IsV K mg (⟨clN K, []⟩ : Cls_) "InvalidPlan" tab_InvalidPlan := isV_own X G is_InvalidPlan xc (by decide +kernel)
  have IS_InvalidUses : IsV K mg (⟨clN K, []⟩ : Cls_) "InvalidUses" tab_InvalidUses := isV_own X G is_InvalidUses xc (by decide +kernel)
  have IS_InvalidPlace : IsV K mg (⟨clN K, []⟩ : Cls_) "InvalidPlace" tab_InvalidPlace := isV_own X G is_InvalidPlace xc (by decide +kernel)
  have IS_InvalidWay : IsV K mg (⟨clN K, []⟩ : Cls_) "InvalidWay" tab_InvalidWay := isV_own X G is_InvalidWay xc (by decide +kernel)
  have IS_InvalidRun : IsV K mg (⟨clN K, []⟩ : Cls_) "InvalidRun" tab_InvalidRun := isV_own X G is_InvalidRun xc (by decide +kernel)
  have IS_InvalidMode : IsV K mg (⟨clN K, []⟩ : Cls_) "InvalidMode" tab_InvalidMode := isV_own X G is_InvalidMode xc (by decide +kernel)
  have IS_InvalidBag : IsV K mg (⟨clN K, []⟩ : Cls_) "InvalidBag" tab_InvalidBag := isV_own X G is_InvalidBag xc (by decide +kernel)
  have IS_InvalidProgram : IsV K mg (⟨clN K, []⟩ : Cls_) "InvalidProgram" tab_InvalidProgram := isV_own X G is_InvalidProgram xc (by decide +kernel)
  have IS_BagError : IsV K mg (⟨clN K, []⟩ : Cls_) "BagError" tab_BagError := isV_own X G is_BagError xc (by decide +kernel)
  have IS_OverflowError : IsV K mg (⟨clN K, []⟩ : Cls_) "OverflowError" tab_OverflowError := isV_blt (T := "OverflowError") (PySem.W.mg_none_of X G z_OverflowError) (by decide +kernel) (by decide) is_OverflowError xc (by decide +kernel)
  have IS_ArithmeticError : IsV K mg (⟨clN K, []⟩ : Cls_) "ArithmeticError" tab_ArithmeticError := isV_blt (T := "ArithmeticError") (PySem.W.mg_none_of X G z_ArithmeticError) (by decide +kernel) (by decide) is_ArithmeticError xc (by decide +kernel)
  have IS_LookupError : IsV K mg (⟨clN K, []⟩ : Cls_) "LookupError" tab_LookupError := isV_blt (T := "LookupError") (PySem.W.mg_none_of X G z_LookupError) (by decide +kernel) (by decide) is_LookupError xc (by decide +kernel)
  have IS_IndexError : IsV K mg (⟨clN K, []⟩ : Cls_) "IndexError" tab_IndexError := isV_blt (T := "IndexError") (PySem.W.mg_none_of X G z_IndexError) (by decide +kernel) (by decide) is_IndexError xc (by decide +kernel)
  have IS_ValueError : IsV K mg (⟨clN K, []⟩ : Cls_) "ValueError" tab_ValueError := isV_blt (T := "ValueError") (PySem.W.mg_none_of X G z_ValueError) (by decide +kernel) (by decide) is_ValueError xc (by decide +kernel)
  have IS_KeyError : IsV K mg (⟨clN K, []⟩ : Cls_) "KeyError" tab_KeyError := isV_blt (T := "KeyError") (PySem.W.mg_none_of X G z_KeyError) (by decide +kernel) (by decide) is_KeyError xc (by decide +kernel)
  have IS_Refused : IsV K mg (⟨clN K, []⟩ : Cls_) "Refused" tab_Refused := isV_own X G is_Refused xc (by decide +kernel)
  have IS_TooMany : IsV K mg (⟨clN K, []⟩ : Cls_) "TooMany" tab_TooMany := isV_own X G is_TooMany xc (by decide +kernel)
  have IS_NothingToUndo : IsV K mg (⟨clN K, []⟩ : Cls_) "NothingToUndo" tab_NothingToUndo := isV_own X G is_NothingToUndo xc (by decide +kernel)
  have IS_InvalidNumber : IsV K mg (⟨clN K, []⟩ : Cls_) "InvalidNumber" tab_InvalidNumber := isV_own X G is_InvalidNumber xc (by decide +kernel)
  have IS_UnknownName : IsV K mg (⟨clN K, []⟩ : Cls_) "UnknownName" tab_UnknownName := isV_own X G is_UnknownName xc (by decide +kernel)
  have IS_UnknownSite : IsV K mg (⟨clN K, []⟩ : Cls_) "UnknownSite" tab_UnknownSite := isV_own X G is_UnknownSite xc (by decide +kernel)
  have FL_limit : FldV K (⟨clN K, []⟩ : Cls_) "limit" fc_limit := fldV_ok fl_limit
  have FL_name : FldV K (⟨clN K, []⟩ : Cls_) "name" fc_name := fldV_ok fl_name
  have FL_many : FldV K (⟨clN K, []⟩ : Cls_) "many" fc_many := fldV_ok fl_many
  have FL_value : FldV K (⟨clN K, []⟩ : Cls_) "value" fc_value := fldV_ok fl_value
  have FL_site : FldV K (⟨clN K, []⟩ : Cls_) "site" fc_site := fldV_ok fl_site
  have FL_line : FldV K (⟨clN K, []⟩ : Cls_) "line" fc_line := fldV_ok fl_line
  have BI_OverflowError : BaseI K mg "OverflowError" "OverflowError.__init__" := ⟨by decide +kernel, .inl ⟨"OverflowError", PySem.W.mg_none_of X G z_OverflowError, by decide +kernel, by kernel_rfl, by decide +kernel, mc_OverflowError, by decide⟩⟩
  have BI_ArithmeticError : BaseI K mg "ArithmeticError" "ArithmeticError.__init__" := ⟨by decide +kernel, .inl ⟨"ArithmeticError", PySem.W.mg_none_of X G z_ArithmeticError, by decide +kernel, by kernel_rfl, by decide +kernel, mc_ArithmeticError, by decide⟩⟩
  have BI_LookupError : BaseI K mg "LookupError" "LookupError.__init__" := ⟨by decide +kernel, .inl ⟨"LookupError", PySem.W.mg_none_of X G z_LookupError, by decide +kernel, by kernel_rfl, by decide +kernel, mc_LookupError, by decide⟩⟩
  have BI_IndexError : BaseI K mg "IndexError" "IndexError.__init__" := ⟨by decide +kernel, .inl ⟨"IndexError", PySem.W.mg_none_of X G z_IndexError, by decide +kernel, by kernel_rfl, by decide +kernel, mc_IndexError, by decide⟩⟩
  have BI_KeyError : BaseI K mg "KeyError" "KeyError.__init__" := ⟨by decide +kernel, .inl ⟨"KeyError", PySem.W.mg_none_of X G z_KeyError, by decide +kernel, by kernel_rfl, by decide +kernel, mc_KeyError, by decide⟩⟩
  have BI_BagError : BaseI K mg "BagError" "ValueError.__init__" := ⟨by decide +kernel, .inr ⟨eb_BagError, PySem.W.mg_of X G mn_BagError, md_BagError, me_BagError, mc_BagError⟩⟩
  have KK_TooMany : ∀ base : Heap, MkV l.prog w K mg base (⟨clN K, []⟩ : Cls_) "TooMany" "limit" e_TooMany := fun base => mkV_of (st := s_init_TooMany) (b := "OverflowError") (sn := "self") (n := "limit") m2_TooMany m3_TooMany m4_TooMany m5_TooMany m6_TooMany m7_TooMany m8_TooMany m9_TooMany ma_TooMany BI_OverflowError sc_init_TooMany rfl (.inl rfl) (.inl rfl) rfl
    (fun Z ta e1 e2 hg ha => by have B2 : BaseI Z.K Z.mg "OverflowError" "OverflowError.__init__" := (by rw [e1, e2]; exact BI_OverflowError); exact pe_baseI hg B2 ha) (by decide) (by decide) (by decide) (by decide) (fun _ => rfl) (fun _ => rfl) (fun _ _ _ _ _ _ us hl => match us, hl with | [_, _], _ => rfl) (PySem.W.mg_of X G m1_TooMany) mb_TooMany (by show clN K _ = _; unfold clN; rw [m1_TooMany])
  have KK_Refused : ∀ base : Heap, MkV l.prog w K mg base (⟨clN K, []⟩ : Cls_) "Refused" "name" e_Refused := fun base => mkV_of (st := s_init_Refused) (b := "ArithmeticError") (sn := "self") (n := "name") m2_Refused m3_Refused m4_Refused m5_Refused m6_Refused m7_Refused m8_Refused m9_Refused ma_Refused BI_ArithmeticError sc_init_Refused rfl (.inl rfl) (.inl rfl) rfl
    (fun Z ta e1 e2 hg ha => by have B2 : BaseI Z.K Z.mg "ArithmeticError" "ArithmeticError.__init__" := (by rw [e1, e2]; exact BI_ArithmeticError); exact pe_baseI hg B2 ha) (by decide) (by decide) (by decide) (by decide) (fun _ => rfl) (fun _ => rfl) (fun _ _ _ _ _ _ us hl => match us, hl with | [_, _], _ => rfl) (PySem.W.mg_of X G m1_Refused) mb_Refused (by show clN K _ = _; unfold clN; rw [m1_Refused])
  have KK_NothingToUndo : ∀ base : Heap, MkV l.prog w K mg base (⟨clN K, []⟩ : Cls_) "NothingToUndo" "many" e_NothingToUndo := fun base => mkV_of (st := s_init_NothingToUndo) (b := "LookupError") (sn := "self") (n := "many") m2_NothingToUndo m3_NothingToUndo m4_NothingToUndo m5_NothingToUndo m6_NothingToUndo m7_NothingToUndo m8_NothingToUndo m9_NothingToUndo ma_NothingToUndo BI_LookupError sc_init_NothingToUndo rfl (.inl rfl) (.inl rfl) rfl
    (fun Z ta e1 e2 hg ha => by have B2 : BaseI Z.K Z.mg "LookupError" "LookupError.__init__" := (by rw [e1, e2]; exact BI_LookupError); exact pe_baseI hg B2 ha) (by decide) (by decide) (by decide) (by decide) (fun _ => rfl) (fun _ => rfl) (fun _ _ _ _ _ _ us hl => match us, hl with | [_, _], _ => rfl) (PySem.W.mg_of X G m1_NothingToUndo) mb_NothingToUndo (by show clN K _ = _; unfold clN; rw [m1_NothingToUndo])
  have KK_InvalidNumber : ∀ base : Heap, MkV l.prog w K mg base (⟨clN K, []⟩ : Cls_) "InvalidNumber" "value" e_InvalidNumber := fun base => mkV_of (st := s_init_InvalidNumber) (b := "IndexError") (sn := "self") (n := "value") m2_InvalidNumber m3_InvalidNumber m4_InvalidNumber m5_InvalidNumber m6_InvalidNumber m7_InvalidNumber m8_InvalidNumber m9_InvalidNumber ma_InvalidNumber BI_IndexError sc_init_InvalidNumber rfl (.inl rfl) (.inl rfl) rfl
    (fun Z ta e1 e2 hg ha => by have B2 : BaseI Z.K Z.mg "IndexError" "IndexError.__init__" := (by rw [e1, e2]; exact BI_IndexError); exact pe_baseI hg B2 ha) (by decide) (by decide) (by decide) (by decide) (fun _ => rfl) (fun _ => rfl) (fun _ _ _ _ _ _ us hl => match us, hl with | [_, _], _ => rfl) (PySem.W.mg_of X G m1_InvalidNumber) mb_InvalidNumber (by show clN K _ = _; unfold clN; rw [m1_InvalidNumber])
  have KK_UnknownSite : ∀ base : Heap, MkV l.prog w K mg base (⟨clN K, []⟩ : Cls_) "UnknownSite" "site" e_UnknownSite := fun base => mkV_of (st := s_init_UnknownSite) (b := "KeyError") (sn := "self") (n := "site") m2_UnknownSite m3_UnknownSite m4_UnknownSite m5_UnknownSite m6_UnknownSite m7_UnknownSite m8_UnknownSite m9_UnknownSite ma_UnknownSite BI_KeyError sc_init_UnknownSite rfl (.inl rfl) (.inl rfl) rfl
    (fun Z ta e1 e2 hg ha => by have B2 : BaseI Z.K Z.mg "KeyError" "KeyError.__init__" := (by rw [e1, e2]; exact BI_KeyError); exact pe_baseI hg B2 ha) (by decide) (by decide) (by decide) (by decide) (fun _ => rfl) (fun _ => rfl) (fun _ _ _ _ _ _ us hl => match us, hl with | [_, _], _ => rfl) (PySem.W.mg_of X G m1_UnknownSite) mb_UnknownSite (by show clN K _ = _; unfold clN; rw [m1_UnknownSite])
  have KK_UnknownName : ∀ base : Heap, MkV l.prog w K mg base (⟨clN K, []⟩ : Cls_) "UnknownName" "name" e_UnknownName := fun base => mkV_of (st := s_init_UnknownName) (b := "KeyError") (sn := "self") (n := "name") m2_UnknownName m3_UnknownName m4_UnknownName m5_UnknownName m6_UnknownName m7_UnknownName m8_UnknownName m9_UnknownName ma_UnknownName BI_KeyError sc_init_UnknownName rfl (.inl rfl) (.inl rfl) rfl
    (fun Z ta e1 e2 hg ha => by have B2 : BaseI Z.K Z.mg "KeyError" "KeyError.__init__" := (by rw [e1, e2]; exact BI_KeyError); exact pe_baseI hg B2 ha) (by decide) (by decide) (by decide) (by decide) (fun _ => rfl) (fun _ => rfl) (fun _ _ _ _ _ _ us hl => match us, hl with | [_, _], _ => rfl) (PySem.W.mg_of X G m1_UnknownName) mb_UnknownName (by show clN K _ = _; unfold clN; rw [m1_UnknownName])
  have KK_ParseError : ∀ base : Heap, MkV l.prog w K mg base (⟨clN K, []⟩ : Cls_) "ParseError" "line" e_ParseError := fun base => mkV_of (st := s_init_ParseError) (b := "BagError") (sn := "self") (n := "line") m2_ParseError m3_ParseError m4_ParseError m5_ParseError m6_ParseError m7_ParseError m8_ParseError m9_ParseError ma_ParseError BI_BagError sc_init_ParseError rfl (.inl rfl) (.inl rfl) rfl
    (fun Z ta e1 e2 hg ha => by have B2 : BaseI Z.K Z.mg "BagError" "ValueError.__init__" := (by rw [e1, e2]; exact BI_BagError); exact pe_baseI hg B2 ha) (by decide) (by decide) (by decide) (by decide) (fun _ => rfl) (fun _ => rfl) (fun _ _ _ _ _ _ us hl => match us, hl with | [_, _], _ => rfl) (PySem.W.mg_of X G m1_ParseError) mb_ParseError (by show clN K _ = _; unfold clN; rw [m1_ParseError])
  refine ⟨PySem.W.fnOf "law" "law" (defArgs s_law) (defBody s_law) (defScope s_law) .none kV7 dc7 pm7 an7 cd7 ct7, [], ⟨clN K, []⟩, ?_, ?_, ?_, ?_, fun s v => .of_eq rfl, fun base _ _ TB => ?_⟩
  · exact (fun _ h => nomatch h)
  · exact (fun _ h => nomatch h)
  · exact (fun _ h => nomatch h)
  · exact (fun _ h => nomatch h)
  have TB0 := TB
  have K_TooMany := KK_TooMany base
  have K_Refused := KK_Refused base
  have K_NothingToUndo := KK_NothingToUndo base
  have K_InvalidNumber := KK_InvalidNumber base
  have K_UnknownSite := KK_UnknownSite base
  have K_UnknownName := KK_UnknownName base
  have K_ParseError := KK_ParseError base
  have C_law_numbers := ok_law_numbers (P := l.prog) (w := w) (base := base) (cl := (⟨clN K, []⟩ : Cls_)) T D0
  have C_law_cast := ok_law_cast (P := l.prog) (w := w) (base := base) (cl := (⟨clN K, []⟩ : Cls_)) T D1
  have C_law_pick := ok_law_pick (P := l.prog) (w := w) (base := base) (cl := (⟨clN K, []⟩ : Cls_)) T D2 C_law_cast
  have C_law_of_bags := ok_law_of_bags (P := l.prog) (w := w) (base := base) (cl := (⟨clN K, []⟩ : Cls_)) T D3 IS_ParseError IS_InvalidCommand IS_InvalidOperation IS_InvalidPlan IS_InvalidUses IS_InvalidPlace IS_InvalidWay IS_InvalidRun IS_InvalidMode IS_InvalidBag IS_InvalidProgram IS_BagError
  have C_law_of_others := ok_law_of_others (P := l.prog) (w := w) (base := base) (cl := (⟨clN K, []⟩ : Cls_)) T D4 IS_OverflowError IS_ArithmeticError IS_LookupError IS_IndexError IS_ValueError IS_KeyError IS_Refused IS_TooMany IS_NothingToUndo IS_InvalidNumber IS_UnknownName IS_UnknownSite
  have C_law_plain_ones := ok_law_plain_ones (P := l.prog) (w := w) (base := base) (cl := (⟨clN K, []⟩ : Cls_)) T D5 V_InvalidCommand V_InvalidOperation V_InvalidPlan V_InvalidUses V_InvalidPlace V_InvalidWay V_InvalidRun V_InvalidMode V_InvalidBag V_InvalidProgram V_BagError
  have C_law_right := ok_law_right (P := l.prog) (w := w) (base := base) (cl := (⟨clN K, []⟩ : Cls_)) T D6 K_TooMany K_Refused K_NothingToUndo K_InvalidNumber K_UnknownSite K_UnknownName K_ParseError FL_limit FL_name FL_many FL_value FL_site FL_line C_law_of_others C_law_of_bags C_law_plain_ones C_law_pick
  exact ok_law T G7 C_law_right C_law_numbers
end K00
open PySem PySem.W PyProof.Rows in
set_option maxRecDepth 100000 in
set_option maxHeartbeats 0 in
theorem PySem.Challenge.cw_postedbag_k00_errors_and_what_they_keep_holds : PySem.Challenge.rw_postedbag_k00_errors_and_what_they_keep.Holds := by
  w_on; o_law; k_head; (case hw => w_witness2)
  k_fill
  refine DN.walk_DG (l := PySem.Challenge.rw_postedbag_k00_errors_and_what_they_keep) (n := 63) (k := 4) (F := K00.F_law) rfl (by decide) rfl ⟨rfl, by decide, by decide⟩ (fun w h Y => by first | exact PySem.W.kIn_of Y | exact PySem.W.km_in_of Y) K00.main ?F
  case F =>
    intro w mg fa h KX G hmg own
    refine' K00.all_mk KX G hmg own ?a0 ?l0 ?c0 ?k0 ?a1 ?l1 ?c1 ?k1 ?a2 ?l2 ?c2 ?k2 ?a3 ?l3 ?c3 ?k3 ?a4 ?l4 ?c4 ?k4 ?a5 ?l5 ?c5 ?k5 ?a6 ?l6 ?c6 ?k6 ?a7 ?l7 ?c7 ?k7 ?z_ArithmeticError ?z_IndexError ?z_KeyError ?z_LookupError ?z_OverflowError ?z_ValueError ?z_abs ?z_int ?z_isinstance ?z_len ?z_max ?z_min ?z_range ?z_repr ?v_InvalidCommand ?v_InvalidOperation ?v_InvalidPlan ?v_InvalidUses ?v_InvalidPlace ?v_InvalidWay ?v_InvalidRun ?v_InvalidMode ?v_InvalidBag ?v_InvalidProgram ?v_BagError ?xc ?is_ParseError ?is_InvalidCommand ?is_InvalidOperation ?is_InvalidPlan ?is_InvalidUses ?is_InvalidPlace ?is_InvalidWay ?is_InvalidRun ?is_InvalidMode ?is_InvalidBag ?is_InvalidProgram ?is_BagError ?is_OverflowError ?is_ArithmeticError ?is_LookupError ?is_IndexError ?is_ValueError ?is_KeyError ?is_Refused ?is_TooMany ?is_NothingToUndo ?is_InvalidNumber ?is_UnknownName ?is_UnknownSite ?fl_limit ?fl_name ?fl_many ?fl_value ?fl_site ?fl_line ?mc_OverflowError ?m1_TooMany ?m2_TooMany ?m3_TooMany ?m4_TooMany ?m5_TooMany ?m6_TooMany ?m7_TooMany ?m8_TooMany ?m9_TooMany ?ma_TooMany ?mb_TooMany ?mc_ArithmeticError ?m1_Refused ?m2_Refused ?m3_Refused ?m4_Refused ?m5_Refused ?m6_Refused ?m7_Refused ?m8_Refused ?m9_Refused ?ma_Refused ?mb_Refused ?mc_LookupError ?m1_NothingToUndo ?m2_NothingToUndo ?m3_NothingToUndo ?m4_NothingToUndo ?m5_NothingToUndo ?m6_NothingToUndo ?m7_NothingToUndo ?m8_NothingToUndo ?m9_NothingToUndo ?ma_NothingToUndo ?mb_NothingToUndo ?mc_IndexError ?m1_InvalidNumber ?m2_InvalidNumber ?m3_InvalidNumber ?m4_InvalidNumber ?m5_InvalidNumber ?m6_InvalidNumber ?m7_InvalidNumber ?m8_InvalidNumber ?m9_InvalidNumber ?ma_InvalidNumber ?mb_InvalidNumber ?mc_KeyError ?m1_UnknownSite ?m2_UnknownSite ?m3_UnknownSite ?m4_UnknownSite ?m5_UnknownSite ?m6_UnknownSite ?m7_UnknownSite ?m8_UnknownSite ?m9_UnknownSite ?ma_UnknownSite ?mb_UnknownSite ?m1_UnknownName ?m2_UnknownName ?m3_UnknownName ?m4_UnknownName ?m5_UnknownName ?m6_UnknownName ?m7_UnknownName ?m8_UnknownName ?m9_UnknownName ?ma_UnknownName ?mb_UnknownName ?mn_BagError ?mc_BagError ?md_BagError ?me_BagError ?m1_ParseError ?m2_ParseError ?m3_ParseError ?m4_ParseError ?m5_ParseError ?m6_ParseError ?m7_ParseError ?m8_ParseError ?m9_ParseError ?ma_ParseError ?mb_ParseError
    (case a0 => k_is)
    (case l0 => k_is)
    (case c0 => k_is)
    (case k0 => k_is)
    (case a1 => k_is)
    (case l1 => k_is)
    (case c1 => k_is)
    (case k1 => k_is)
    (case a2 => k_is)
    (case l2 => k_is)
    (case c2 => k_is)
    (case k2 => k_is)
    (case a3 => k_is)
    (case l3 => k_is)
    (case c3 => k_is)
    (case k3 => k_is)
    (case a4 => k_is)
    (case l4 => k_is)
    (case c4 => k_is)
    (case k4 => k_is)
    (case a5 => k_is)
    (case l5 => k_is)
    (case c5 => k_is)
    (case k5 => k_is)
    (case a6 => k_is)
    (case l6 => k_is)
    (case c6 => k_is)
    (case k6 => k_is)
    (case a7 => k_is)
    (case l7 => k_is)
    (case c7 => k_is)
    (case k7 => k_is)
    (case z_ArithmeticError => k_is)
    (case z_IndexError => k_is)
    (case z_KeyError => k_is)
    (case z_LookupError => k_is)
    (case z_OverflowError => k_is)
    (case z_ValueError => k_is)
    (case z_abs => k_is)
    (case z_int => k_is)
    (case z_isinstance => k_is)
    (case z_len => k_is)
    (case z_max => k_is)
    (case z_min => k_is)
    (case z_range => k_is)
    (case z_repr => k_is)
    (case v_InvalidCommand => kernel_rfl)
    (case v_InvalidOperation => kernel_rfl)
    (case v_InvalidPlan => kernel_rfl)
    (case v_InvalidUses => kernel_rfl)
    (case v_InvalidPlace => kernel_rfl)
    (case v_InvalidWay => kernel_rfl)
    (case v_InvalidRun => kernel_rfl)
    (case v_InvalidMode => kernel_rfl)
    (case v_InvalidBag => kernel_rfl)
    (case v_InvalidProgram => kernel_rfl)
    (case v_BagError => kernel_rfl)
    (case xc => kernel_rfl)
    (case is_ParseError => kernel_rfl)
    (case is_InvalidCommand => kernel_rfl)
    (case is_InvalidOperation => kernel_rfl)
    (case is_InvalidPlan => kernel_rfl)
    (case is_InvalidUses => kernel_rfl)
    (case is_InvalidPlace => kernel_rfl)
    (case is_InvalidWay => kernel_rfl)
    (case is_InvalidRun => kernel_rfl)
    (case is_InvalidMode => kernel_rfl)
    (case is_InvalidBag => kernel_rfl)
    (case is_InvalidProgram => kernel_rfl)
    (case is_BagError => kernel_rfl)
    (case is_OverflowError => kernel_rfl)
    (case is_ArithmeticError => kernel_rfl)
    (case is_LookupError => kernel_rfl)
    (case is_IndexError => kernel_rfl)
    (case is_ValueError => kernel_rfl)
    (case is_KeyError => kernel_rfl)
    (case is_Refused => kernel_rfl)
    (case is_TooMany => kernel_rfl)
    (case is_NothingToUndo => kernel_rfl)
    (case is_InvalidNumber => kernel_rfl)
    (case is_UnknownName => kernel_rfl)
    (case is_UnknownSite => kernel_rfl)
    (case fl_limit => kernel_rfl)
    (case fl_name => kernel_rfl)
    (case fl_many => kernel_rfl)
    (case fl_value => kernel_rfl)
    (case fl_site => kernel_rfl)
    (case fl_line => kernel_rfl)
    (case mc_OverflowError => k_is)
    (case m1_TooMany => k_is)
    (case m2_TooMany => k_is)
    (case m3_TooMany => first | exact DN.XM.xb_OE | exact DN.XM.xb_OE.ref _)
    (case m4_TooMany => k_is)
    (case m5_TooMany => k_is)
    (case m6_TooMany => k_is)
    (case m7_TooMany => k_is)
    (case m8_TooMany => k_is)
    (case m9_TooMany => k_is)
    (case ma_TooMany => k_is)
    (case mb_TooMany => k_is)
    (case mc_ArithmeticError => k_is)
    (case m1_Refused => k_is)
    (case m2_Refused => k_is)
    (case m3_Refused => first | exact DN.XM.xb_AE | exact DN.XM.xb_AE.ref _)
    (case m4_Refused => k_is)
    (case m5_Refused => k_is)
    (case m6_Refused => k_is)
    (case m7_Refused => k_is)
    (case m8_Refused => k_is)
    (case m9_Refused => k_is)
    (case ma_Refused => k_is)
    (case mb_Refused => k_is)
    (case mc_LookupError => k_is)
    (case m1_NothingToUndo => k_is)
    (case m2_NothingToUndo => k_is)
    (case m3_NothingToUndo => first | exact DN.XM.xb_LE | exact DN.XM.xb_LE.ref _)
    (case m4_NothingToUndo => k_is)
    (case m5_NothingToUndo => k_is)
    (case m6_NothingToUndo => k_is)
    (case m7_NothingToUndo => k_is)
    (case m8_NothingToUndo => k_is)
    (case m9_NothingToUndo => k_is)
    (case ma_NothingToUndo => k_is)
    (case mb_NothingToUndo => k_is)
    (case mc_IndexError => k_is)
    (case m1_InvalidNumber => k_is)
    (case m2_InvalidNumber => k_is)
    (case m3_InvalidNumber => first | exact DN.XM.xb_IE | exact DN.XM.xb_IE.ref _)
    (case m4_InvalidNumber => k_is)
    (case m5_InvalidNumber => k_is)
    (case m6_InvalidNumber => k_is)
    (case m7_InvalidNumber => k_is)
    (case m8_InvalidNumber => k_is)
    (case m9_InvalidNumber => k_is)
    (case ma_InvalidNumber => k_is)
    (case mb_InvalidNumber => k_is)
    (case mc_KeyError => k_is)
    (case m1_UnknownSite => k_is)
    (case m2_UnknownSite => k_is)
    (case m3_UnknownSite => first | exact DN.XM.xb_KE | exact DN.XM.xb_KE.ref _)
    (case m4_UnknownSite => k_is)
    (case m5_UnknownSite => k_is)
    (case m6_UnknownSite => k_is)
    (case m7_UnknownSite => k_is)
    (case m8_UnknownSite => k_is)
    (case m9_UnknownSite => k_is)
    (case ma_UnknownSite => k_is)
    (case mb_UnknownSite => k_is)
    (case m1_UnknownName => k_is)
    (case m2_UnknownName => k_is)
    (case m3_UnknownName => first | exact DN.XM.xb_KE | exact DN.XM.xb_KE.ref _)
    (case m4_UnknownName => k_is)
    (case m5_UnknownName => k_is)
    (case m6_UnknownName => k_is)
    (case m7_UnknownName => k_is)
    (case m8_UnknownName => k_is)
    (case m9_UnknownName => k_is)
    (case ma_UnknownName => k_is)
    (case mb_UnknownName => k_is)
    (case mn_BagError => k_is)
    (case mc_BagError => k_is)
    (case md_BagError => k_is)
    (case me_BagError => k_is)
    (case m1_ParseError => k_is)
    (case m2_ParseError => k_is)
    (case m3_ParseError => first | exact DN.XM.xb_VE | exact DN.XM.xb_VE.ref _)
    (case m4_ParseError => k_is)
    (case m5_ParseError => k_is)
    (case m6_ParseError => k_is)
    (case m7_ParseError => k_is)
    (case m8_ParseError => k_is)
    (case m9_ParseError => k_is)
    (case ma_ParseError => k_is)
    (case mb_ParseError => k_is)
