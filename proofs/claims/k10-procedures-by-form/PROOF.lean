import PyProof.Rows.All
import Wide.All
import OpenK.AllK
import Wide.FinOn
import HandS.ForMost
import HandS.Exc
import HandS.TryOnly
import HandS.ExcOwn
import HandS.IsInst
import HandS.TupAny
import HandS.TupMul
import HandS.FStr
import HandS.Property
import HandS.ClsMeth
import HandS.Star
import HandS.Deep
import HandS.Wide
import HandS.Lambda
import HandS.EndTab
import HandS.ExcInit
import HandS.ExcValue
import HandS.Zip
import HandS.WordsExc
import HandS.Text
import HandS.ExcIs
import HandS.TupSets
import KE.KDictDisplayH
import HandS.EndOwn
import HandS.ExcField
import KE.KExcIs
import KE.KEqNest
import PyProof.FactsAll.dict
import HandS.MethStar
import HandS.OwnEq
import KE.KFmtOwn
import KE.KCallOwn
import PyProof.InstEq
import HandS.SetFor
import HandS.Strs
import PyProof.Rows.MatchSeqLen
import PyProof.NeKinds
import PySem.Challenge.RW_postedbag_k10_procedures_by_form
set_option Elab.async false
set_option linter.all false
set_option autoImplicit false
set_option maxRecDepth 100000
set_option maxHeartbeats 4000000
/-! DN1: data, store, worlds, the readings of expressions, tests, statements. -/
namespace DN
open PySem PySem.Spec PyProof.Rows L2

/-- data without the heap; mut n: the n-th cell of the store -/
inductive D where
  | non | bl (b : Bool) | int (i : Int) | str (x : Str)
  | tup (xs : List D) | lst (xs : List D) | dct (kvs : List (D × D))
  | mut (n : Nat) | ins (c : Str) (fs : List (Str × D)) | scr (ns : List Int) | opq
  | exn (c : Str) (fs : List (Str × D)) | cls (c : Str)

inductive Cell where
  | lst (xs : List D)
  | dct (kvs : List (D × D))
  | ins (c : Str) (fs : List (Str × D))
abbrev Store := List Cell

inductive Res (α : Type) where
  | ok (a : α) (S : Store)
  | exc (c : Str) (fs : List (Str × D)) (S : Store)
  | bad
abbrev M (α : Type) := Store → Res α
def M.pure {α : Type} (a : α) : M α := fun S => .ok a S
def M.bind {α β : Type} (m : M α) (k : α → M β) : M β := fun S =>
  match m S with
  | .ok a S' => k a S'
  | .exc c fs S' => .exc c fs S'
  | .bad => .bad
def M.bad {α : Type} : M α := fun _ => .bad
instance : Monad M where
  pure := M.pure
  bind := M.bind

/-- a slot: unknown, data, a list of the frame's own -/
inductive Sl where
  | un | val (d : D) | own (xs : List D) | adr (a : Addr)
abbrev Env := List Sl

/-- what stays fixed: the written part, the classes by name -/
structure Cls_ where
  at_ : Str → Option Addr
  T : List (Addr × Str)
structure Gx where
  K : PySem.W.Frag
  cl : Cls_

/-- a world: where the cells stand, what is busy (may change) -/
structure Wd where
  phi : Nat → Option Addr
  B : Addr → Prop

/-- a list, a tuple that is read and does not change -/
def LstAt (G : Gx) (W : Wd) (H : Hp) (a : Addr) (xs : List V) : Prop :=
  (Rd H a (.lst xs) ∧ ¬ W.B a) ∨
    ∃ (o : Obj) (its : Array Value) (n : Nat), G.K.lookup a = some o ∧ o.cls = .type "list" ∧ o.dict = none ∧ o.data = .seq its n ∧ its.size ≤ sizeLine ∧ Vals xs its.toList
def TupAt (G : Gx) (W : Wd) (H : Hp) (a : Addr) (xs : List V) : Prop :=
  (Rd H a (.tup xs) ∧ ¬ W.B a) ∨
    ∃ (o : Obj) (its : Array Value) (n : Nat), G.K.lookup a = some o ∧ o.cls = .type "tuple" ∧ o.data = .seq its n ∧ its.size ≤ sizeLine ∧ Vals xs its.toList
theorem LstAt.sq {G : Gx} {W : Wd} {H : Hp} {a : Addr} {xs : List V} (h : LstAt G W H a xs) : SqL G.K H a xs := h.imp And.left id
theorem TupAt.sq {G : Gx} {W : Wd} {H : Hp} {a : Addr} {xs : List V} (h : TupAt G W H a xs) : SqT G.K H a xs := h.imp And.left id

/-- a dict, of which nothing else is known -/
abbrev OpqO (a : Addr) : HO := .ext fun h => ∃ o, h.get? a = some o ∧ o.cls = .type "dict"
mutual
inductive Rp (G : Gx) (W : Wd) (H : Hp) : V → D → Prop
  | non : Rp G W H .non .non
  | bl (b : Bool) : Rp G W H (.bl b) (.bl b)
  | int (i : Int) : Rp G W H (.int i) (.int i)
  | str (x : Str) : Rp G W H (.str x) (.str x)
  | tup {a : Addr} {vs : List V} {ds : List D} : TupAt G W H a vs → RpA G W H vs ds → Rp G W H (.ref a) (.tup ds)
  | lst {a : Addr} {vs : List V} {ds : List D} : H a = some (.lst vs) → ¬ W.B a → RpA G W H vs ds → Rp G W H (.ref a) (.lst ds)
  | scr {a : Addr} {ns : List Int} : LstAt G W H a (ns.map V.int) → Rp G W H (.ref a) (.scr ns)
  | dct {a : Addr} {kvs : List (Key × V)} {ds : List (D × D)} : H a = some (.dK kvs) → ¬ W.B a → RpK G W H kvs ds → Rp G W H (.ref a) (.dct ds)
  | mut {n : Nat} {a : Addr} : W.phi n = some a → Rp G W H (.ref a) (.mut n)
  | opq {a : Addr} : H a = some (OpqO a) → ¬ W.B a → Rp G W H (.ref a) .opq
  | cls {c : Str} {C : Addr} : G.cl.at_ c = some C → Rp G W H (.ref C) (.cls c)
  | exn0 {c : Str} {a C : Addr} : G.cl.at_ c = some C → H a = some (ExO (.ref C) a) → ¬ W.B a → Rp G W H (.ref a) (.exn c [])
  | exn1 {c : Str} {a C dx : Addr} {fs : List (Str × V)} {ds : List (Str × D)} : G.cl.at_ c = some C → H a = some (exo a C (some dx)) → ¬ W.B a → H dx = some (exd dx fs) → ¬ W.B dx → RpF G W H fs ds → Rp G W H (.ref a) (.exn c ds)
  | ins {c : Str} {a C dx : Addr} {fs : List (Str × V)} {ds : List (Str × D)} : G.cl.at_ c = some C → H a = some (.ins C dx fs) → ¬ W.B a → RpF G W H fs ds → Rp G W H (.ref a) (.ins c ds)
inductive RpA (G : Gx) (W : Wd) (H : Hp) : List V → List D → Prop
  | nil : RpA G W H [] []
  | cons {v : V} {vs : List V} {d : D} {ds : List D} : Rp G W H v d → RpA G W H vs ds → RpA G W H (v :: vs) (d :: ds)
inductive RpK (G : Gx) (W : Wd) (H : Hp) : List (Key × V) → List (D × D) → Prop
  | nil : RpK G W H [] []
  | consI {i : Int} {v : V} {vs : List (Key × V)} {d : D} {ds : List (D × D)} : Rp G W H v d → RpK G W H vs ds → RpK G W H ((.inl i, v) :: vs) ((.int i, d) :: ds)
  | consS {x : Str} {v : V} {vs : List (Key × V)} {d : D} {ds : List (D × D)} : Rp G W H v d → RpK G W H vs ds → RpK G W H ((.inr x, v) :: vs) ((.str x, d) :: ds)
inductive RpF (G : Gx) (W : Wd) (H : Hp) : List (Str × V) → List (Str × D) → Prop
  | nil : RpF G W H [] []
  | cons {f : Str} {v : V} {vs : List (Str × V)} {d : D} {ds : List (Str × D)} : Rp G W H v d → RpF G W H vs ds → RpF G W H ((f, v) :: vs) ((f, d) :: ds)
end

/-- no table of code objects -/
def nt (o : HO) : Prop := ∀ ps, o ≠ .tbl ps
theorem nt_ext {o : HO} (h : ∃ φ, o = .ext φ) : nt o := fun ps z => by
  obtain ⟨φ, e⟩ := h
  rw [e] at z
  cases z
/-- nothing stood there but perhaps a table -/
def Nw (H : Hp) (a : Addr) : Prop := ∀ o, H a = some o → ¬ nt o
theorem Nw.of {H : Hp} {a : Addr} (h : H a = none) : Nw H a := fun o e => by rw [h] at e; cases e
theorem Nw.no {H : Hp} {a : Addr} {o : HO} (z : Nw H a) (h : H a = some o) (t : nt o := by intro _ z; cases z) {Q : Prop} : Q := absurd t (z o h)
/-- worlds in a row, weakly (behind statements): what is not busy stays -/
structure Lw (W : Wd) (H : Hp) (W' : Wd) (H' : Hp) : Prop where
  ph : ∀ n a, W.phi n = some a → W'.phi n = some a
  Bn : ∀ a, W'.B a → W.B a ∨ Nw H a
  kp' : ∀ b o, H b = some o → nt o → ¬ W.B b → H' b = some o
theorem Lw.kp {W : Wd} {H : Hp} {W' : Wd} {H' : Hp} (l : Lw W H W' H') (b : Addr) (o : HO) (h : H b = some o) (nb : ¬ W.B b) (t : nt o := by intro _ z; cases z) : H' b = some o := l.kp' b o h t nb
/-- .. behind expressions and calls: only the store's cells change -/
structure Le (W : Wd) (H : Hp) (W' : Wd) (H' : Hp) : Prop where
  ph : ∀ n a, W.phi n = some a → W'.phi n = some a
  ps : ∀ n a, W'.phi n = some a → W.phi n = some a ∨ Nw H a
  Bm : ∀ a, W.B a → W'.B a
  Bn : ∀ a, W'.B a → W.B a ∨ Nw H a
  kp' : ∀ b o, H b = some o → nt o → (∃ n, W.phi n = some b) ∨ H' b = some o
theorem Le.kp {W : Wd} {H : Hp} {W' : Wd} {H' : Hp} (l : Le W H W' H') (b : Addr) (o : HO) (h : H b = some o) (t : nt o := by intro _ z; cases z) : (∃ n, W.phi n = some b) ∨ H' b = some o := l.kp' b o h t
structure WOk (W : Wd) (H : Hp) : Prop where
  tr : ∀ a, W.B a → ∃ o, H a = some o ∧ nt o
  rg : ∀ n a, W.phi n = some a → W.B a
  ij : ∀ n m a, W.phi n = some a → W.phi m = some a → n = m

section
variable {G : Gx} {W W' W1 W2 : Wd} {H H' H1 H2 : Hp}
theorem Lw.refl : Lw W H W H := ⟨fun _ _ h => h, fun _ h => .inl h, fun _ _ h _ _ => h⟩
theorem Le.refl : Le W H W H := ⟨fun _ _ h => h, fun _ _ h => .inl h, fun _ h => h, fun _ h => .inl h, fun _ _ h _ => .inr h⟩
theorem Lw.trans (a : Lw W H W1 H1) (b : Lw W1 H1 W2 H2) : Lw W H W2 H2 := by
  refine ⟨fun n x h => b.ph n x (a.ph n x h), fun x h => ?_, fun c o h t nb => ?_⟩
  · rcases b.Bn x h with h1 | h1
    · exact a.Bn x h1
    · by_cases nb : W.B x
      · exact .inl nb
      · exact .inr fun o q t => h1 o (a.kp' x o q t nb) t
  · refine b.kp' c o (a.kp' c o h t nb) t fun q => ?_
    rcases a.Bn c q with z | z
    · exact nb z
    · exact z.no h t
theorem Le.trans (a : Le W H W1 H1) (b : Le W1 H1 W2 H2) (w : WOk W H) (w2 : WOk W2 H2) : Le W H W2 H2 := by
  refine ⟨fun n x h => b.ph n x (a.ph n x h), fun n x h => ?_, fun x h => b.Bm x (a.Bm x h), fun x h => ?_, fun c o h t => ?_⟩
  · rcases b.ps n x h with h1 | h1
    · exact a.ps n x h1
    · by_cases hx : W.phi n = some x
      · exact .inl hx
      · refine .inr fun o q t => ?_
        rcases a.kp' x o q t with ⟨m, z⟩ | z
        · have e := w2.ij n m x h (b.ph m x (a.ph m x z))
          subst e; exact hx z
        · exact h1 o z t
  · rcases b.Bn x h with h1 | h1
    · exact a.Bn x h1
    · by_cases hx : W.B x
      · exact .inl hx
      · refine .inr fun o q t => ?_
        rcases a.kp' x o q t with ⟨m, z⟩ | z
        · exact hx (w.rg m x z)
        · exact h1 o z t
  · rcases a.kp' c o h t with z | z
    · exact .inl z
    · rcases b.kp' c o z t with ⟨n, y⟩ | y
      · rcases a.ps n c y with q | q
        · exact .inl ⟨n, q⟩
        · exact q.no h t
      · exact .inr y
theorem Le.lw (a : Le W H W1 H1) (w : WOk W H) : Lw W H W1 H1 := by
  refine ⟨a.ph, a.Bn, fun c o h t nb => ?_⟩
  rcases a.kp' c o h t with ⟨n, z⟩ | z
  · exact absurd (w.rg n c z) nb
  · exact z
/-- new objects alone -/
theorem Le.same (s : Same H H') : Le W H W H' := ⟨fun _ _ h => h, fun _ _ h => .inl h, fun _ h => h, fun _ h => .inl h, fun b o h _ => .inr (s b o h)⟩
theorem WOk.same (w : WOk W H) (s : Same H H') : WOk W H' := ⟨fun a h => let ⟨o, e, t⟩ := w.tr a h; ⟨o, s a o e, t⟩, w.rg, w.ij⟩
theorem Same.new {p : Addr} {o : HO} (h : H p = none) : Same H (upd H p o) := fun b u e => by
  rw [upd_ne (ne_of_none e h)]; exact e
theorem LstAt.mono {a : Addr} {xs : List V} (l : Lw W H W' H') (h : LstAt G W H a xs) : LstAt G W' H' a xs := by
  rcases h with ⟨h, nb⟩ | h
  · left
    rcases h with h | ⟨o, h⟩
    · exact ⟨.inl (l.kp _ _ h nb), fun q => (l.Bn _ q).elim nb fun z => z.no h⟩
    · exact ⟨.inr ⟨o, l.kp _ _ h nb⟩, fun q => (l.Bn _ q).elim nb fun z => z.no h⟩
  · exact .inr h
theorem TupAt.mono {a : Addr} {xs : List V} (l : Lw W H W' H') (h : TupAt G W H a xs) : TupAt G W' H' a xs := by
  rcases h with ⟨h, nb⟩ | h
  · left
    rcases h with h | ⟨o, h⟩
    · exact ⟨.inl (l.kp _ _ h nb), fun q => (l.Bn _ q).elim nb fun z => z.no h⟩
    · exact ⟨.inr ⟨o, l.kp _ _ h nb⟩, fun q => (l.Bn _ q).elim nb fun z => z.no h⟩
  · exact .inr h
mutual
theorem Rp.mono (l : Lw W H W' H') : ∀ {v : V} {d : D}, Rp G W H v d → Rp G W' H' v d
  | _, _, .non => .non
  | _, _, .bl b => .bl b
  | _, _, .int i => .int i
  | _, _, .str x => .str x
  | _, _, .tup h r => .tup (h.mono l) (RpA.mono l r)
  | _, _, .lst h nb r => .lst (l.kp _ _ h nb) (fun q => (l.Bn _ q).elim nb fun z => z.no h) (RpA.mono l r)
  | _, _, .scr h => .scr (h.mono l)
  | _, _, .dct h nb r => .dct (l.kp _ _ h nb) (fun q => (l.Bn _ q).elim nb fun z => z.no h) (RpK.mono l r)
  | _, _, .mut h => .mut (l.ph _ _ h)
  | _, _, .opq h nb => .opq (l.kp _ _ h nb) (fun q => (l.Bn _ q).elim nb fun z => z.no h)
  | _, _, .cls c => .cls c
  | _, _, .exn0 c h nb => .exn0 c (l.kp _ _ h nb (nt_ext ⟨_, rfl⟩)) (fun q => (l.Bn _ q).elim nb fun z => z.no h (nt_ext ⟨_, rfl⟩))
  | _, _, .exn1 c h nb h2 nb2 r => .exn1 c (l.kp _ _ h nb (nt_ext ⟨_, rfl⟩)) (fun q => (l.Bn _ q).elim nb fun z => z.no h (nt_ext ⟨_, rfl⟩)) (l.kp _ _ h2 nb2 (nt_ext ⟨_, rfl⟩)) (fun q => (l.Bn _ q).elim nb2 fun z => z.no h2 (nt_ext ⟨_, rfl⟩)) (RpF.mono l r)
  | _, _, .ins c h nb r => .ins c (l.kp _ _ h nb) (fun q => (l.Bn _ q).elim nb fun z => z.no h) (RpF.mono l r)
theorem RpA.mono (l : Lw W H W' H') : ∀ {vs : List V} {ds : List D}, RpA G W H vs ds → RpA G W' H' vs ds
  | _, _, .nil => .nil
  | _, _, .cons r t => .cons (Rp.mono l r) (RpA.mono l t)
theorem RpK.mono (l : Lw W H W' H') : ∀ {vs : List (Key × V)} {ds : List (D × D)}, RpK G W H vs ds → RpK G W' H' vs ds
  | _, _, .nil => .nil
  | _, _, .consI r t => .consI (Rp.mono l r) (RpK.mono l t)
  | _, _, .consS r t => .consS (Rp.mono l r) (RpK.mono l t)
theorem RpF.mono (l : Lw W H W' H') : ∀ {vs : List (Str × V)} {ds : List (Str × D)}, RpF G W H vs ds → RpF G W' H' vs ds
  | _, _, .nil => .nil
  | _, _, .cons r t => .cons (Rp.mono l r) (RpF.mono l t)
end
theorem RpA.length : ∀ {vs : List V} {ds : List D}, RpA G W H vs ds → vs.length = ds.length
  | _, _, .nil => rfl
  | _, _, .cons _ t => by rw [List.length_cons, List.length_cons, RpA.length t]
theorem RpA.get : ∀ {vs : List V} {ds : List D} {i : Nat} {d : D}, RpA G W H vs ds → ds[i]? = some d → ∃ v, vs[i]? = some v ∧ Rp G W H v d
  | _, _, _, _, .nil, e => by simp at e
  | _, _, 0, _, .cons r _, e => by simp at e; subst e; exact ⟨_, rfl, r⟩
  | _, _, i + 1, d, .cons _ t, e => by
    obtain ⟨v, h1, h2⟩ := RpA.get (i := i) (d := d) t (by simpa using e)
    exact ⟨v, by simpa using h1, h2⟩
theorem RpA.app : ∀ {vs ws : List V} {ds es : List D}, RpA G W H vs ds → RpA G W H ws es → RpA G W H (vs ++ ws) (ds ++ es)
  | _, _, _, _, .nil, s => s
  | _, _, _, _, .cons r t, s => .cons r (RpA.app t s)
theorem RpA.take : ∀ {vs : List V} {ds : List D} (n : Nat), RpA G W H vs ds → RpA G W H (vs.take n) (ds.take n)
  | _, _, 0, _ => .nil
  | _, _, _ + 1, .nil => .nil
  | _, _, n + 1, .cons r t => .cons r (RpA.take n t)
theorem RpA.drop : ∀ {vs : List V} {ds : List D} (n : Nat), RpA G W H vs ds → RpA G W H (vs.drop n) (ds.drop n)
  | _, _, 0, r => r
  | _, _, _ + 1, .nil => .nil
  | _, _, n + 1, .cons _ t => RpA.drop n t
theorem RpA.set {v : V} {d : D} (r : Rp G W H v d) : ∀ {vs : List V} {ds : List D} (n : Nat), RpA G W H vs ds → RpA G W H (vs.set n v) (ds.set n d)
  | _, _, _, .nil => .nil
  | _, _, 0, .cons _ t => .cons r t
  | _, _, n + 1, .cons q t => .cons q (RpA.set r n t)
theorem RpA.rev {vs : List V} {ds : List D} (h : RpA G W H vs ds) : RpA G W H vs.reverse ds.reverse := by
  induction vs generalizing ds with
  | nil => cases h; exact .nil
  | cons v vs ih =>
    cases h with
    | cons r t =>
      rw [List.reverse_cons, List.reverse_cons]
      exact (ih t).app (.cons r .nil)
end

/-- a cell as it stands -/
def CellOk (G : Gx) (W : Wd) (H : Hp) (a : Addr) : Cell → Prop
  | .lst ds => ∃ vs, H a = some (.lst vs) ∧ RpA G W H vs ds
  | .dct ds => ∃ kvs, H a = some (.dK kvs) ∧ RpK G W H kvs ds
  | .ins c ds => ∃ C dx vs, G.cl.at_ c = some C ∧ H a = some (.ins C dx vs) ∧ RpF G W H vs ds
structure StOk (G : Gx) (W : Wd) (H : Hp) (S : Store) : Prop where
  at_ : ∀ (n : Nat) (c : Cell), S[n]? = some c → ∃ a, W.phi n = some a ∧ CellOk G W H a c
  top : ∀ n, S.length ≤ n → W.phi n = none
  tb : LamX.Tabs G.cl.T H
/-- the tables stay where no table and no code object is written -/
theorem Tabs.put {T : List (Addr × Str)} {H : Hp} {p : Addr} {o u : HO} (t : LamX.Tabs T H) (h : H p = some o) (n1 : nt o) (n2 : ∀ c q, o ≠ LamX.CodeO c q) : LamX.Tabs T (upd H p u) := fun z hz => by
  obtain ⟨ps, e, k, c⟩ := t z hz
  refine ⟨ps, by rw [upd_ne (fun y => by rw [y, h] at e; cases e; exact n1 _ rfl)]; exact e, k, fun pos cv hc => ?_⟩
  obtain ⟨d, e1, e2⟩ := c pos cv hc
  exact ⟨d, e1, by rw [upd_ne (fun y => by rw [y, h] at e2; cases e2; exact n2 _ _ rfl)]; exact e2⟩
theorem code_lst {xs : List V} : ∀ (c : Addr) (q : Str), HO.lst xs ≠ LamX.CodeO c q := fun c q z => by
  unfold LamX.CodeO at z
  cases z
theorem code_dK {xs : List (Key × V)} : ∀ (c : Addr) (q : Str), HO.dK xs ≠ LamX.CodeO c q := fun c q z => by
  unfold LamX.CodeO at z
  cases z
theorem CellOk.same {G : Gx} {W W' : Wd} {H H' : Hp} {a : Addr} {c : Cell} (l : Lw W H W' H') (s : ∀ o, H a = some o → H' a = some o) (h : CellOk G W H a c) : CellOk G W' H' a c := by
  cases c with
  | lst ds => obtain ⟨vs, h, r⟩ := h; exact ⟨vs, s _ h, r.mono l⟩
  | dct ds => obtain ⟨vs, h, r⟩ := h; exact ⟨vs, s _ h, r.mono l⟩
  | ins c ds => obtain ⟨C, dx, vs, e, h, r⟩ := h; exact ⟨C, dx, vs, e, s _ h, r.mono l⟩
theorem Lw.same {W : Wd} {H H' : Hp} (s : Same H H') : Lw W H W H' := ⟨fun _ _ h => h, fun _ h => .inl h, fun b o h _ _ => s b o h⟩
theorem StOk.same {G : Gx} {W : Wd} {H H' : Hp} {S : Store} (h : StOk G W H S) (s : Same H H') : StOk G W H' S :=
  ⟨fun n c e => let ⟨a, e1, e2⟩ := h.at_ n c e; ⟨a, e1, e2.same (Lw.same s) fun o q => s a o q⟩, h.top, h.tb.ext s⟩

/-- the environment of a frame that was entered in the world W0, H0 -/
structure Ev (G : Gx) (W0 : Wd) (H0 : Hp) (W : Wd) (H : Hp) (S : Store) (σ : L2.St) (ρ : Env) (own : Nat → Option Addr) : Prop where
  w0 : WOk W0 H0
  wk : WOk W H
  le : Le W0 H0 W H
  st : StOk G W H S
  len : σ.length = ρ.length
  sl : ∀ (i : Nat) (d : D), ρ[i]? = some (.val d) → ∃ v, σ[i]? = some (some v) ∧ Rp G W H v d
  so : ∀ (i : Nat) (ds : List D), ρ[i]? = some (.own ds) → ∃ a vs, own i = some a ∧ σ[i]? = some (some (.ref a)) ∧ H a = some (.lst vs) ∧ RpA G W H vs ds
  oB : ∀ i a, own i = some a → W.B a ∧ Nw H0 a ∧ ∀ n, W.phi n ≠ some a
  oi : ∀ i j a, own i = some a → own j = some a → i = j
  sa : ∀ (i : Nat) (a : Addr), ρ[i]? = some (.adr a) → σ[i]? = some (some (.ref a))

section
variable {G : Gx} {W0 W W' : Wd} {H0 H H' : Hp} {S S' : Store} {σ : L2.St} {ρ : Env} {own : Nat → Option Addr}
theorem set_adr {ρ : Env} {i j : Nat} {x : Sl} {a : Addr} (hx : ∀ a, x ≠ .adr a) (h : (ρ.set i x)[j]? = some (.adr a)) : j ≠ i ∧ ρ[j]? = some (.adr a) := by
  by_cases hj : j = i
  · subst hj
    have hl : j < ρ.length := by
      have := (List.getElem?_eq_some_iff.mp h).1
      simpa using this
    rw [List.getElem?_set_self hl] at h
    exact absurd (Option.some.inj h) (hx a)
  · rw [List.getElem?_set_ne (Ne.symm hj)] at h
    exact ⟨hj, h⟩
/-- behind an expression -/
theorem Ev.mono (e : Ev G W0 H0 W H S σ ρ own) (l : Le W H W' H') (w : WOk W' H') (s : StOk G W' H' S') : Ev G W0 H0 W' H' S' σ ρ own := by
  have lw := l.lw e.wk
  refine ⟨e.w0, w, e.le.trans l e.w0 w, s, e.len, fun i d h => ?_, fun i ds h => ?_, fun i a h => ?_, e.oi, e.sa⟩
  · obtain ⟨v, h1, h2⟩ := e.sl i d h
    exact ⟨v, h1, h2.mono lw⟩
  · obtain ⟨a, vs, h1, h2, h3, h4⟩ := e.so i ds h
    refine ⟨a, vs, h1, h2, ?_, h4.mono lw⟩
    rcases l.kp _ _ h3 with ⟨n, z⟩ | z
    · exact absurd z ((e.oB i a h1).2.2 n)
    · exact z
  · obtain ⟨h1, h2, h3⟩ := e.oB i a h
    refine ⟨l.Bm _ h1, h2, fun n q => ?_⟩
    rcases l.ps n a q with z | z
    · exact h3 n z
    · obtain ⟨o, y, t⟩ := e.wk.tr a h1
      exact z.no y t
theorem Ev.same (e : Ev G W0 H0 W H S σ ρ own) (s : Same H H') : Ev G W0 H0 W H' S σ ρ own := e.mono (Le.same s) (e.wk.same s) (e.st.same s)
end

/-- an exception: an own class by its name, its fields -/
def ExOk (G : Gx) (W : Wd) (H : Hp) (c : Str) (fs : List (Str × D)) (cls : Value) (dd : Option Addr) : Prop :=
  ∃ C, G.cl.at_ c = some C ∧ cls = .ref C ∧ ((fs = [] ∧ dd = none) ∨ fs ≠ [] ∧ ∃ dx vs, dd = some dx ∧ H dx = some (.xd vs) ∧ ¬ W.B dx ∧ RpF G W H vs fs)

/-- what is wanted of a result -/
def Po {α : Type} (G : Gx) (E : WX) (σ : L2.St) (W : Wd) (H : Hp) (r : Res α) (R : α → Store → Wd → Hp → Prop) : Prop :=
  match r with
  | .ok a S' => ∀ W' H', Le W H W' H' → WOk W' H' → StOk G W' H' S' → R a S' W' H'
  | .exc c fs S' => ∀ W' H' cls dd, Le W H W' H' → WOk W' H' → StOk G W' H' S' → ExOk G W' H' c fs cls dd → E cls dd σ H'
  | .bad => False
section
variable {G : Gx} {E : WX} {σ : L2.St} {W W1 : Wd} {H H1 : Hp} {α β : Type}
theorem Po.step {r : Res α} {R : α → Store → Wd → Hp → Prop} (w : WOk W H) (l : Le W H W1 H1) (h : Po G E σ W H r R) : Po G E σ W1 H1 r R := by
  cases r with
  | ok a S' => exact fun W' H' l' w' s' => h W' H' (l.trans l' w w') w' s'
  | exc c fs S' => exact fun W' H' cls dd l' w' s' x => h W' H' cls dd (l.trans l' w w') w' s' x
  | bad => exact h
theorem Po.bind {m : M α} {k : α → M β} {S : Store} {R : β → Store → Wd → Hp → Prop} (w : WOk W H) (h : Po G E σ W H ((m >>= k) S) R) :
    Po G E σ W H (m S) (fun a S1 W1 H1 => Po G E σ W1 H1 (k a S1) R) := by
  have h : Po G E σ W H (M.bind m k S) R := h
  unfold M.bind at h
  cases q : m S with
  | ok a S' =>
    rw [q] at h
    exact fun W' H' l' w' s' => Po.step w l' h
  | exc c fs S' => rw [q] at h; exact h
  | bad => rw [q] at h; exact h
theorem Po.imp {r : Res α} {R R' : α → Store → Wd → Hp → Prop} (h : Po G E σ W H r R) (i : ∀ a S' W' H', Le W H W' H' → WOk W' H' → StOk G W' H' S' → R a S' W' H' → R' a S' W' H') : Po G E σ W H r R' := by
  cases r with
  | ok a S' => exact fun W' H' l' w' s' => i a S' W' H' l' w' s' (h W' H' l' w' s')
  | exc c fs S' => exact h
  | bad => exact h
/-- at once -/
theorem Po.now {a : α} {S : Store} {R : α → Store → Wd → Hp → Prop} (w : WOk W H) (s : StOk G W H S) (h : Po G E σ W H (.ok a S) R) : R a S W H := h W H Le.refl w s
end

/-- a value is wanted -/
abbrev RV (G : Gx) (Q : VK) : D → Store → Wd → Hp → Prop := fun d _ W' H' => ∀ v, Rp G W' H' v d → Q v H'
def tE (G : Gx) (E : WX) (f : Env → M D) : TE := fun σ H Q => ∃ W0 H0 W S ρ own, Ev G W0 H0 W H S σ ρ own ∧ Po G E σ W H (f ρ S) (RV G Q)
def tB_ (G : Gx) (E : WX) (f : Env → M Bool) : TT := fun σ H Q => ∃ W0 H0 W S ρ own, Ev G W0 H0 W H S σ ρ own ∧ Po G E σ W H (f ρ S) (fun b _ _ H' => Q b H')
def tA (G : Gx) (E : WX) (f : Env → M (List D)) : TA := fun σ H Q => ∃ W0 H0 W S ρ own, Ev G W0 H0 W H S σ ρ own ∧ Po G E σ W H (f ρ S) (fun ds _ W' H' => ∀ vs, RpA G W' H' vs ds → Q vs H')

/-- the judgements: e reads as f -/
abbrev DE (X : Cx) (cl : Cls_) (E : WX) (e : Expr) (f : Env → M D) : Prop := PE X e (tE ⟨X.K, cl⟩ E f)
abbrev DT (X : Cx) (cl : Cls_) (E : WX) (e : Expr) (f : Env → M Bool) : Prop := PT X e (tB_ ⟨X.K, cl⟩ E f)
abbrev DA (X : Cx) (cl : Cls_) (E : WX) (es : List Expr) (f : Env → M (List D)) : Prop := PA X es (tA ⟨X.K, cl⟩ E f)

theorem pe_imp {X : Cx} {e : Expr} {t t' : TE} (h : PE X e t) (i : ∀ σ H Q, t' σ H Q → t σ H Q) : PE X e t' := ⟨fun pins s σ H Q I q => h.run pins s σ H Q I (i σ H Q q)⟩
theorem pt_imp {X : Cx} {e : Expr} {t t' : TT} (h : PT X e t) (i : ∀ σ H Q, t' σ H Q → t σ H Q) : PT X e t' := ⟨fun pins s σ H Q I q => h.run pins s σ H Q I (i σ H Q q)⟩
theorem pa_imp {X : Cx} {e : List Expr} {t t' : TA} (h : PA X e t) (i : ∀ σ H Q, t' σ H Q → t σ H Q) : PA X e t' := ⟨fun pos pins s σ H Q I q => h.run pos pins s σ H Q I (i σ H Q q)⟩
theorem ps_imp {X : Cx} {e : Stmt} {t t' : TS} (h : PS X e t) (i : ∀ Dn σ H, t' Dn σ H → t Dn σ H) : PS X e t' := ⟨fun pins s σ H Dn I q => h.run pins s σ H Dn I (i Dn σ H q)⟩
theorem pss_imp {X : Cx} {e : List Stmt} {t t' : TS} (h : PSs X e t) (i : ∀ Dn σ H, t' Dn σ H → t Dn σ H) : PSs X e t' := ⟨fun pins s σ H Dn I q => h.run pins s σ H Dn I (i Dn σ H q)⟩

/-! ### statements -/
inductive Fl where
  | nx | rt (d : D) | bk | ct
inductive RS where
  | go (f : Fl) (ρ : Env) (S : Store)
  | exc (c : Str) (fs : List (Str × D)) (ρ : Env) (S : Store)
  | bad
abbrev Sm := Env → Store → RS
def wantF (G : Gx) (Dn : Ends) (W : Wd) (σ : L2.St) (H : Hp) : Fl → Prop
  | .nx => Dn.nx σ H
  | .rt d => ∀ v, Rp G W H v d → Dn.rt v H
  | .bk => Dn.bk σ H
  | .ct => Dn.ct σ H
def PoS (G : Gx) (E : WX) (W0 : Wd) (H0 : Hp) (W : Wd) (H : Hp) (r : RS) (R : Fl → Env → Store → Wd → Hp → L2.St → (Nat → Option Addr) → Prop) : Prop :=
  match r with
  | .go fl ρ' S' => ∀ W' H' σ' own', Lw W H W' H' → Ev G W0 H0 W' H' S' σ' ρ' own' → R fl ρ' S' W' H' σ' own'
  | .exc c fs ρ' S' => ∀ W' H' σ' own' cls dd, Lw W H W' H' → Ev G W0 H0 W' H' S' σ' ρ' own' → ExOk G W' H' c fs cls dd → E cls dd σ' H'
  | .bad => False
def tS (G : Gx) (E : WX) (f : Sm) : TS := fun Dn σ H => ∃ W0 H0 W S ρ own, Ev G W0 H0 W H S σ ρ own ∧ PoS G E W0 H0 W H (f ρ S) (fun fl _ _ W' H' σ' _ => wantF G Dn W' σ' H' fl)
abbrev DS (X : Cx) (cl : Cls_) (E : WX) (st : Stmt) (f : Sm) : Prop := PS X st (tS ⟨X.K, cl⟩ E f)
abbrev DSs (X : Cx) (cl : Cls_) (E : WX) (st : List Stmt) (f : Sm) : Prop := PSs X st (tS ⟨X.K, cl⟩ E f)
end DN
/-! DN2: expressions: names, constants, operators, comparisons, tests. -/
namespace DN
open PySem PySem.Spec PyProof.Rows L2

theorem bind_run {α β : Type} (m : M α) (k : α → M β) (S : Store) : (m >>= k) S = match m S with
  | .ok a S' => k a S'
  | .exc c fs S' => .exc c fs S'
  | .bad => .bad := rfl

/-! ### names, constants -/
def cVar (i : Nat) : Env → M D := fun ρ S => match ρ[i]? with
  | some (.val d) => .ok d S
  | _ => .bad
def cC (d : D) : Env → M D := fun _ => M.pure d
section
variable {X : Cx} {cl : Cls_} {E : WX}
theorem de_var' {i : Nat} {e : Expr} (h : PE X e (tVar i)) : DE X cl E e (cVar i) := by
  refine pe_imp h fun σ H Q ⟨W0, H0, W, S, ρ, own, ev, h⟩ => ?_
  unfold cVar at h
  cases q : ρ[i]? with
  | none => rw [q] at h; exact h.elim
  | some s =>
    rw [q] at h
    cases s with
    | un => exact h.elim
    | own xs => exact h.elim
    | adr _ => exact h.elim
    | val d =>
      obtain ⟨v, h1, h2⟩ := ev.sl i d q
      exact ⟨v, h1, Po.now ev.wk ev.st h v h2⟩
theorem de_var (i : Nat) {x : Str} {pos : Pos} (hN : X.N[i]? = some x := by rfl) (hv : Vis X.env.scope x := by first | exact Or.inl rfl | exact Or.inr (Or.inl rfl) | exact Or.inr (Or.inr rfl)) (hd : (x == ("__debug__" : Str)) = false := by decide)
    (hcd : (x == ("__classdict__" : Str)) = false := by decide) : DE X cl E (.Name x pos) (cVar i) := de_var' (pe_var hN hv hd hcd)
theorem de_c {e : Expr} {v : V} {d : D} (h : PE X e (tC v)) (r : ∀ W H, Rp ⟨X.K, cl⟩ W H v d) : DE X cl E e (cC d) := by
  refine pe_imp h fun σ H Q ⟨W0, H0, W, S, ρ, own, ev, h⟩ => ?_
  exact Po.now ev.wk ev.st h v (r _ _)
theorem de_int {i j pos} : DE X cl E (.Constant (.int i) j pos) (cC (.int i)) := de_c pe_int fun _ _ => .int i
theorem de_bl {b j pos} : DE X cl E (.Constant (.bool b) j pos) (cC (.bl b)) := de_c pe_bl fun _ _ => .bl b
theorem de_non {j pos} : DE X cl E (.Constant .none j pos) (cC .non) := de_c pe_non fun _ _ => .non
theorem de_str {x j pos} : DE X cl E (.Constant (.str x) j pos) (cC (.str x)) := de_c pe_str fun _ _ => .str x
/-- a module's constant that is an int or a text -/
theorem de_gint {x : Str} {i : Int} {t : Tok} {pos : Pos} (hm : X.mg x = some (.int i t)) (hg : Gl X x := by rfl) (hd : (x == ("__debug__" : Str)) = false := by decide) : DE X cl E (.Name x pos) (cC (.int i)) :=
  de_c (pe_glob hg hm (v := .int i) ⟨_, rfl⟩ hd) fun _ _ => .int i
theorem de_gstr {x : Str} {i : Str} {t : Tok} {pos : Pos} (hm : X.mg x = some (.str i t)) (hg : Gl X x := by rfl) (hd : (x == ("__debug__" : Str)) = false := by decide) : DE X cl E (.Name x pos) (cC (.str i)) :=
  de_c (pe_glob hg hm (v := .str i) ⟨_, rfl⟩ hd) fun _ _ => .str i
end

/-! ### two values, one value -/
def c2 (g : D → D → M D) (fa fb : Env → M D) : Env → M D := fun ρ => do let x ← fa ρ; let y ← fb ρ; g x y
def c1 (g : D → M D) (fa : Env → M D) : Env → M D := fun ρ => do let x ← fa ρ; g x
/-- the operation by data is the one by values -/
def OpD (K : PySem.W.Frag) (cl : Cls_) (r : R2) (g : D → D → M D) : Prop :=
  ∀ (E : WX) (σ : L2.St) (W : Wd) (H : Hp) (S : Store) (x y : V) (dx dy : D) (Q : VK), WOk W H → StOk ⟨K, cl⟩ W H S → Rp ⟨K, cl⟩ W H x dx → Rp ⟨K, cl⟩ W H y dy → Po ⟨K, cl⟩ E σ W H (g dx dy S) (RV ⟨K, cl⟩ Q) → r x y H Q
def UnD (K : PySem.W.Frag) (cl : Cls_) (r : V → Hp → VK → Prop) (g : D → M D) : Prop :=
  ∀ (E : WX) (σ : L2.St) (W : Wd) (H : Hp) (S : Store) (x : V) (dx : D) (Q : VK), WOk W H → StOk ⟨K, cl⟩ W H S → Rp ⟨K, cl⟩ W H x dx → Po ⟨K, cl⟩ E σ W H (g dx S) (RV ⟨K, cl⟩ Q) → r x H Q
/-- the answer is a scalar: nothing new stands -/
theorem Po.val {G : Gx} {E : WX} {σ : L2.St} {W : Wd} {H : Hp} {S : Store} {d : D} {v : V} {Q : VK} (w : WOk W H) (s : StOk G W H S) (h : Po G E σ W H (.ok d S) (RV G Q)) (r : Rp G W H v d) : Q v H := Po.now w s h v r
/-- a new object -/
theorem Po.new {G : Gx} {E : WX} {σ : L2.St} {W : Wd} {H : Hp} {S : Store} {d : D} {p : Addr} {o : HO} {Q : VK} (w : WOk W H) (s : StOk G W H S) (h : Po G E σ W H (.ok d S) (RV G Q)) (hp : H p = none)
    (r : Rp G W (upd H p o) (.ref p) d) : Q (.ref p) (upd H p o) :=
  h W _ (Le.same (Same.new hp)) (w.same (Same.new hp)) (s.same (Same.new hp)) _ r
section
variable {G : Gx} {W : Wd} {H : Hp} {p : Addr}
theorem WOk.free (w : WOk W H) (hp : H p = none) : ¬ W.B p := fun q => by
  obtain ⟨o, e, _⟩ := w.tr p q
  rw [hp] at e; cases e
theorem Rp.newTup {vs : List V} {ds : List D} (w : WOk W H) (hp : H p = none) (r : RpA G W H vs ds) : Rp G W (upd H p (.tup vs)) (.ref p) (.tup ds) :=
  .tup (.inl ⟨.inl upd_same, w.free hp⟩) (r.mono (Lw.same (Same.new hp)))
theorem Rp.newLst {vs : List V} {ds : List D} (w : WOk W H) (hp : H p = none) (r : RpA G W H vs ds) : Rp G W (upd H p (.lst vs)) (.ref p) (.lst ds) :=
  .lst upd_same (w.free hp) (r.mono (Lw.same (Same.new hp)))
end
section
variable {X : Cx} {cl : Cls_} {E : WX} {a b c : Expr} {fa fb fc : Env → M D} {pos : Pos}
/-- the first value, then what is made of it -/
theorem tE_bind {G : Gx} {E : WX} {fa : Env → M D} {k : Env → D → M D} {σ : L2.St} {H : Hp} {Q : VK} {R : V → Hp → Prop} (h : tE G E (fun ρ => fa ρ >>= k ρ) σ H Q)
    (hk : ∀ W0 H0 W1 H1 S1 ρ own v d, Ev G W0 H0 W1 H1 S1 σ ρ own → Rp G W1 H1 v d → Po G E σ W1 H1 (k ρ d S1) (RV G Q) → R v H1) : tE G E fa σ H R := by
  obtain ⟨W0, H0, W, S, ρ, own, ev, h⟩ := h
  exact ⟨W0, H0, W, S, ρ, own, ev, (Po.bind ev.wk h).imp fun d S1 W1 H1 l w s hh v rv => hk W0 H0 W1 H1 S1 ρ own v d (ev.mono l w s) rv hh⟩
theorem de_bin {op : Operator} {r : R2} {g : D → D → M D} (ho : OpR X (binaryOp op) r) (hr : OpD X.K cl r g) (ha : DE X cl E a fa) (hb : DE X cl E b fb) : DE X cl E (.BinOp a op b pos) (c2 g fa fb) := by
  refine pe_imp (pe_op ho ha hb) fun σ H Q h => ?_
  refine tE_bind h fun W0 H0 W1 H1 S1 ρ own x dx ev rx h1 => ?_
  refine ⟨W0, H0, W1, S1, ρ, own, ev, (Po.bind ev.wk h1).imp fun dy S2 W2 H2 l w s hh y ry => ?_⟩
  exact hr E σ W2 H2 S2 x y dx dy Q w s (rx.mono (l.lw ev.wk)) ry hh
theorem de_un {op : UnaryOp} {r : V → Hp → VK → Prop} {g : D → M D} (ho : UnR X (unaryOp op) r) (hr : UnD X.K cl r g) (ha : DE X cl E a fa) : DE X cl E (.UnaryOp op a pos) (c1 g fa) := by
  refine pe_imp (pe_un ho ha) fun σ H Q h => ?_
  refine tE_bind h fun W0 H0 W1 H1 S1 ρ own x dx ev rx h1 => ?_
  exact hr E σ W1 H1 S1 x dx Q ev.wk ev.st rx h1
end

/-! ### ints -/
def gAdd : D → D → M D
  | .int i, .int j => M.pure (.int (i + j))
  | .str a, .str b => if a.length + b.length ≤ 16777216 then M.pure (.str (a ++ b)) else M.bad
  | .tup xs, .tup ys => if xs.length + ys.length ≤ 16777216 then M.pure (.tup (xs ++ ys)) else M.bad
  | .lst xs, .lst ys => if xs.length + ys.length ≤ 16777216 then M.pure (.lst (xs ++ ys)) else M.bad
  | _, _ => M.bad
def gSub : D → D → M D
  | .int i, .int j => M.pure (.int (i - j))
  | _, _ => M.bad
def gMul : D → D → M D
  | .int i, .int j => if (-(2 ^ 64) < i ∧ i < 2 ^ 64) ∨ (-(2 ^ 64) < j ∧ j < 2 ^ 64) then M.pure (.int (i * j)) else M.bad
  | .tup xs, .int j => if xs.isEmpty = false ∧ 2 ≤ j ∧ j ≤ 1000 ∧ xs.length ≤ 1000 then M.pure (.tup (List.replicate j.toNat xs).flatten) else M.bad
  | .lst xs, .int j => if 0 ≤ j ∧ j ≤ 1000 ∧ xs.length ≤ 1000 then M.pure (.lst (List.replicate j.toNat xs).flatten) else M.bad
  | _, _ => M.bad
def gMod : D → D → M D
  | .int i, .int j => if 0 < j then M.pure (.int (i % j)) else M.bad
  | _, _ => M.bad
def gFdiv : D → D → M D
  | .int i, .int j => if 0 < j ∧ j < 1073741824 then M.pure (.int (i / j)) else M.bad
  | _, _ => M.bad
def gPow : D → D → M D
  | .int i, .int j => if 0 ≤ j ∧ (Builtin.Int.intBits i : Int) * j ≤ 134217728 then M.pure (.int (i ^ j.toNat)) else M.bad
  | _, _ => M.bad
def gNeg : D → M D
  | .int i => M.pure (.int (-i))
  | _ => M.bad
theorem po_bad {G : Gx} {E : WX} {σ : L2.St} {W : Wd} {H : Hp} {α : Type} {R : α → Store → Wd → Hp → Prop} (h : Po G E σ W H (.bad : Res α) R) : False := h
theorem po_if {G : Gx} {E : WX} {σ : L2.St} {W : Wd} {H : Hp} {α : Type} {S : Store} {R : α → Store → Wd → Hp → Prop} {c : Prop} [Decidable c] {m : M α} (h : Po G E σ W H ((if c then m else (M.bad : M α)) S) R) : c ∧ Po G E σ W H (m S) R := by
  by_cases hc : c
  · rw [if_pos hc] at h; exact ⟨hc, h⟩
  · rw [if_neg hc] at h; exact h.elim
theorem isline {n : Nat} (h : n ≤ 16777216) : n ≤ sizeLine := by rw [sizeLine_eq]; exact h
section
variable {X : Cx} {cl : Cls_}
theorem od_int {K : PySem.W.Frag} {C : Int → Int → Prop} [∀ i j, Decidable (C i j)] {z : Int → Int → Int} {g : D → D → M D} (hg : ∀ i j, g (.int i) (.int j) = if C i j then M.pure (.int (z i j)) else M.bad)
    (hb : ∀ x y, (∀ i j, ¬ (x = .int i ∧ y = .int j)) → g x y = M.bad) : OpD K cl (rI C fun i j => .int (z i j)) g := by
  intro E σ W H S x y dx dy Q w s rx ry h
  cases dx with
  | int i =>
    cases dy with
    | int j =>
      cases rx; cases ry
      rw [hg] at h
      obtain ⟨c, h⟩ := po_if h
      exact ⟨i, j, rfl, rfl, c, Po.val w s h (.int _)⟩
    | _ => rw [hb _ _ fun i j ⟨_, e⟩ => by cases e] at h; exact (po_bad h).elim
  | _ => rw [hb _ _ fun i j ⟨e, _⟩ => by cases e] at h; exact (po_bad h).elim
def rTrue (r : R2) : R2 := r
theorem od_sub {K : PySem.W.Frag} : OpD K cl (rI0 fun i j => .int (i - j)) gSub := by
  intro E σ W H S x y dx dy Q w s rx ry h
  cases dx with
  | int i =>
    cases dy with
    | int j => cases rx; cases ry; exact ⟨i, j, rfl, rfl, Po.val w s h (.int _)⟩
    | _ => exact (po_bad h).elim
  | _ => exact (po_bad h).elim
instance (i j : Int) : Decidable (CMul i j) := by unfold CMul; infer_instance
instance (i j : Int) : Decidable (CDiv i j) := by unfold CDiv; infer_instance
theorem RpA.rep {G : Gx} {W : Wd} {H : Hp} {vs : List V} {ds : List D} (h : RpA G W H vs ds) : ∀ n : Nat, RpA G W H (List.replicate n vs).flatten (List.replicate n ds).flatten
  | 0 => .nil
  | n + 1 => by rw [List.replicate_succ, List.replicate_succ, List.flatten_cons, List.flatten_cons]; exact h.app (RpA.rep h n)
def rMulA (K : PySem.W.Frag) : R2 := fun x y H Q => (rI CMul (fun i j => .int (i * j)) x y H Q) ∨ (rRepT K x y H Q) ∨ rRep x y H Q
theorem op_mulA : OpR X (binaryOp .Mult) (rMulA X.K) := op_mul.or (op_repT.or op_rep)
theorem od_mul {K : PySem.W.Frag} : OpD K cl (rMulA K) gMul := by
  intro E σ W H S x y dx dy Q w s rx ry h
  cases dx with
  | int i =>
    cases dy with
    | int j =>
      cases rx; cases ry
      obtain ⟨c, h⟩ := po_if h
      exact .inl ⟨i, j, rfl, rfl, c, Po.val w s h (.int _)⟩
    | _ => exact (po_bad h).elim
  | tup xs =>
    cases dy with
    | int j =>
      obtain ⟨⟨c1, c2, c3, c4⟩, h⟩ := po_if h
      cases rx with
      | @tup a vs _ ha ra =>
        cases ry
        refine .inr (.inl ⟨a, j, vs, rfl, rfl, ha.sq, fun e => ?_, c2, c3, by rw [ra.length]; exact c4, fun p hp => ?_⟩)
        · subst e
          cases ra
          cases c1
        · exact Po.new w s h hp (Rp.newTup w hp (ra.rep _))
    | _ => exact (po_bad h).elim
  | lst xs =>
    cases dy with
    | int j =>
      obtain ⟨⟨c1, c2, c3⟩, h⟩ := po_if h
      cases rx with
      | @lst a vs _ ha _ ra =>
        cases ry
        have hm : vs.length * j.toNat ≤ 1000 * 1000 := Nat.mul_le_mul (by rw [ra.length]; exact c3) (by omega)
        refine .inr (.inr ⟨a, j, vs, rfl, rfl, ha, by omega, by omega, isline (by omega), fun p hp => ?_⟩)
        exact Po.new w s h hp (Rp.newLst w hp (ra.rep _))
    | _ => exact (po_bad h).elim
  | _ => exact (po_bad h).elim
theorem od_mod {K : PySem.W.Frag} : OpD K cl (rI (fun _ j => 0 < j) fun i j => .int (i % j)) gMod := by
  intro E σ W H S x y dx dy Q w s rx ry h
  cases dx with
  | int i =>
    cases dy with
    | int j =>
      cases rx; cases ry
      obtain ⟨c, h⟩ := po_if h
      exact ⟨i, j, rfl, rfl, c, Po.val w s h (.int _)⟩
    | _ => exact (po_bad h).elim
  | _ => exact (po_bad h).elim
theorem od_fdiv {K : PySem.W.Frag} : OpD K cl (rI CDiv fun i j => .int (i / j)) gFdiv := by
  intro E σ W H S x y dx dy Q w s rx ry h
  cases dx with
  | int i =>
    cases dy with
    | int j =>
      cases rx; cases ry
      obtain ⟨c, h⟩ := po_if h
      exact ⟨i, j, rfl, rfl, c, Po.val w s h (.int _)⟩
    | _ => exact (po_bad h).elim
  | _ => exact (po_bad h).elim
def CPowW (i j : Int) : Prop := 0 ≤ j ∧ (Builtin.Int.intBits i : Int) * j ≤ 134217728
theorem op_powW : OpR X (binaryOp .Pow) (rI CPowW fun i j => .int (i ^ j.toNat)) := opI fun _ _ _ _ _ _ _ hc q => pow_int hc.1 (by have := hc.2; omega) q
theorem od_pow {K : PySem.W.Frag} : OpD K cl (rI CPowW fun i j => .int (i ^ j.toNat)) gPow := by
  intro E σ W H S x y dx dy Q w s rx ry h
  cases dx with
  | int i =>
    cases dy with
    | int j =>
      cases rx; cases ry
      obtain ⟨c, h⟩ := po_if h
      exact ⟨i, j, rfl, rfl, c, Po.val w s h (.int _)⟩
    | _ => exact (po_bad h).elim
  | _ => exact (po_bad h).elim
theorem ud_neg {K : PySem.W.Frag} : UnD K cl (rU fun i => .int (-i)) gNeg := by
  intro E σ W H S x dx Q w s rx h
  cases dx with
  | int i => cases rx; exact ⟨i, rfl, Po.val w s h (.int _)⟩
  | _ => exact (po_bad h).elim
/-- + of ints, texts, tuples, lists -/
def rAddA (K : PySem.W.Frag) : R2 := fun x y H Q => (rI0 (fun i j => .int (i + j)) x y H Q) ∨ (∃ i j, x = .str i ∧ y = .str j ∧ i.length + j.length ≤ sizeLine ∧ Q (.str (i ++ j)) H) ∨ (rCatA K x y H Q) ∨ rCat x y H Q
theorem op_addA : OpR X (binaryOp .Add) (rAddA X.K) := op_add.or (op_add_str.or (op_catA.or op_cat))
theorem od_add {K : PySem.W.Frag} : OpD K cl (rAddA K) gAdd := by
  intro E σ W H S x y dx dy Q w s rx ry h
  cases dx with
  | int i =>
    cases dy with
    | int j => cases rx; cases ry; exact .inl ⟨i, j, rfl, rfl, Po.val w s h (.int _)⟩
    | _ => exact (po_bad h).elim
  | str i =>
    cases dy with
    | str j =>
      cases rx; cases ry
      obtain ⟨c, h⟩ := po_if h
      exact .inr (.inl ⟨i, j, rfl, rfl, isline c, Po.val w s h (.str _)⟩)
    | _ => exact (po_bad h).elim
  | tup xs =>
    cases dy with
    | tup ys =>
      obtain ⟨c, h⟩ := po_if h
      cases rx with
      | @tup a vs _ ha ra =>
        cases ry with
        | @tup b us _ hb rb =>
          refine .inr (.inr (.inl ⟨a, b, vs, us, rfl, rfl, ha.sq, hb.sq, by rw [ra.length, rb.length]; exact isline c, fun e => ?_, fun _ e => ?_, fun _ _ p hp => ?_⟩))
          · subst e
            cases ra
            exact Po.val w s h (.tup hb rb)
          · subst e
            cases rb
            rw [List.append_nil] at h
            exact Po.val w s h (.tup ha ra)
          · exact Po.new w s h hp (Rp.newTup w hp (ra.app rb))
    | _ => exact (po_bad h).elim
  | lst xs =>
    cases dy with
    | lst ys =>
      obtain ⟨c, h⟩ := po_if h
      cases rx with
      | @lst a vs _ ha _ ra =>
        cases ry with
        | @lst b us _ hb _ rb =>
          refine .inr (.inr (.inr ⟨a, b, vs, us, rfl, rfl, ha, hb, by rw [ra.length, rb.length]; exact isline c, fun p hp => ?_⟩))
          exact Po.new w s h hp (Rp.newLst w hp (ra.app rb))
    | _ => exact (po_bad h).elim
  | _ => exact (po_bad h).elim
variable {E : WX} {a b c : Expr} {fa fb fc : Env → M D} {pos : Pos}
theorem de_add (ha : DE X cl E a fa) (hb : DE X cl E b fb) : DE X cl E (.BinOp a .Add b pos) (c2 gAdd fa fb) := de_bin op_addA od_add ha hb
theorem de_sub (ha : DE X cl E a fa) (hb : DE X cl E b fb) : DE X cl E (.BinOp a .Sub b pos) (c2 gSub fa fb) := de_bin op_sub od_sub ha hb
theorem de_mul (ha : DE X cl E a fa) (hb : DE X cl E b fb) : DE X cl E (.BinOp a .Mult b pos) (c2 gMul fa fb) := de_bin op_mulA od_mul ha hb
theorem de_mod (ha : DE X cl E a fa) (hb : DE X cl E b fb) : DE X cl E (.BinOp a .Mod b pos) (c2 gMod fa fb) := de_bin op_mod od_mod ha hb
theorem de_fdiv (ha : DE X cl E a fa) (hb : DE X cl E b fb) : DE X cl E (.BinOp a .FloorDiv b pos) (c2 gFdiv fa fb) := de_bin op_fdiv od_fdiv ha hb
theorem de_pow (ha : DE X cl E a fa) (hb : DE X cl E b fb) : DE X cl E (.BinOp a .Pow b pos) (c2 gPow fa fb) := de_bin op_powW od_pow ha hb
theorem de_neg (ha : DE X cl E a fa) : DE X cl E (.UnaryOp .USub a pos) (c1 gNeg fa) := de_un un_neg ud_neg ha
end

/-! ### comparisons -/
mutual
def toP : D → Option PyData
  | .non => some .none
  | .bl b => some (.bool b)
  | .int i => some (.int i)
  | .str x => some (.str x)
  | .tup xs => (toPs xs).map .tuple
  | .lst xs => (toPs xs).map .list
  | _ => none
def toPs : List D → Option (List PyData)
  | [] => some []
  | d :: ds => match toP d, toPs ds with
    | some p, some ps => some (p :: ps)
    | _, _ => none
end
section
variable {K : PySem.W.Frag} {cl : Cls_} {W : Wd} {H : Hp}
mutual
theorem Rp.dp : ∀ {d : D} {v : V} {p : PyData}, Rp ⟨K, cl⟩ W H v d → toP d = some p → Dp K H v p
  | .non, _, _, .non, e => by simp [toP] at e; subst e; exact .non
  | .bl b, _, _, .bl _, e => by simp [toP] at e; subst e; exact .bl b
  | .int b, _, _, .int _, e => by simp [toP] at e; subst e; exact .int b
  | .str b, _, _, .str _, e => by simp [toP] at e; subst e; exact .str b
  | .tup ds, _, _, .tup h r, e => by
    simp only [toP, Option.map_eq_some_iff] at e
    obtain ⟨ps, e1, e2⟩ := e
    subst e2
    exact .tup h.sq (RpA.dp r e1)
  | .lst ds, _, _, .lst h _ r, e => by
    simp only [toP, Option.map_eq_some_iff] at e
    obtain ⟨ps, e1, e2⟩ := e
    subst e2
    exact .lst (SqL.of h) (RpA.dp r e1)
  | .dct _, _, _, _, e => by simp [toP] at e
  | .mut _, _, _, _, e => by simp [toP] at e
  | .opq, _, _, _, e => by simp [toP] at e
  | .ins _ _, _, _, _, e => by simp [toP] at e
  | .exn _ _, _, _, _, e => by simp [toP] at e
  | .cls _, _, _, _, e => by simp [toP] at e
  | .scr _, _, _, _, e => by simp [toP] at e
theorem RpA.dp : ∀ {ds : List D} {vs : List V} {ps : List PyData}, RpA ⟨K, cl⟩ W H vs ds → toPs ds = some ps → DpAll K H vs ps
  | [], _, _, .nil, e => by simp [toPs] at e; subst e; exact .nil
  | d :: ds, _, _, .cons r t, e => by
    unfold toPs at e
    cases q1 : toP d with
    | none => rw [q1] at e; simp at e
    | some p =>
      cases q2 : toPs ds with
      | none => rw [q1, q2] at e; simp at e
      | some ps =>
        rw [q1, q2] at e
        simp at e; subst e
        exact .cons (Rp.dp r q1) (RpA.dp t q2)
end
end
/-- == of data -/
def eqD (x y : D) : Option Bool := match toP x, toP y with
  | some p, some q => if SeqAt.shaped p = true ∧ SeqAt.shaped q = true then some (PyData.eqv p q) else none
  | _, _ => none
def gEq (x y : D) : M D := match eqD x y with
  | some b => M.pure (.bl b)
  | none => M.bad
def gNe (x y : D) : M D := match eqD x y with
  | some b => M.pure (.bl (!b))
  | none => M.bad
def gLt : D → D → M D
  | .int i, .int j => M.pure (.bl (decide (i < j)))
  | .str i, .str j => M.pure (.bl (decide (i.cps.toList < j.cps.toList)))
  | _, _ => M.bad
def gLe : D → D → M D
  | .int i, .int j => M.pure (.bl (decide (i ≤ j)))
  | .str i, .str j => M.pure (.bl (!decide (j.cps.toList < i.cps.toList)))
  | _, _ => M.bad
def gGt : D → D → M D
  | .int i, .int j => M.pure (.bl (decide (j < i)))
  | _, _ => M.bad
def gGe : D → D → M D
  | .int i, .int j => M.pure (.bl (decide (j ≤ i)))
  | _, _ => M.bad
def gIsN : D → D → M D
  | .non, .non => M.pure (.bl true)
  | _, .non => M.pure (.bl false)
  | _, _ => M.bad
def gNotN : D → D → M D
  | .non, .non => M.pure (.bl false)
  | _, .non => M.pure (.bl true)
  | _, _ => M.bad
section
variable {X : Cx} {K : PySem.W.Frag} {cl : Cls_}
theorem od_eq : OpD K cl (rEqD K) gEq := by
  intro E σ W H S x y dx dy Q w s rx ry h
  unfold gEq eqD at h
  cases q1 : toP dx with
  | none => rw [q1] at h; exact h.elim
  | some p =>
    cases q2 : toP dy with
    | none => rw [q1, q2] at h; exact h.elim
    | some q =>
      rw [q1, q2] at h
      dsimp only at h
      by_cases hc : SeqAt.shaped p = true ∧ SeqAt.shaped q = true
      · rw [if_pos hc] at h
        exact ⟨p, q, rx.dp q1, ry.dp q2, hc.1, hc.2, Po.val w s h (.bl _)⟩
      · rw [if_neg hc] at h; exact h.elim
theorem od_ne : OpD K cl (rNeD K) gNe := by
  intro E σ W H S x y dx dy Q w s rx ry h
  unfold gNe eqD at h
  cases q1 : toP dx with
  | none => rw [q1] at h; exact h.elim
  | some p =>
    cases q2 : toP dy with
    | none => rw [q1, q2] at h; exact h.elim
    | some q =>
      rw [q1, q2] at h
      dsimp only at h
      by_cases hc : SeqAt.shaped p = true ∧ SeqAt.shaped q = true
      · rw [if_pos hc] at h
        exact ⟨p, q, rx.dp q1, ry.dp q2, hc.1, hc.2, Po.val w s h (.bl _)⟩
      · rw [if_neg hc] at h; exact h.elim
def rLtA : R2 := fun x y H Q => (rI0 (fun i j => .bl (decide (i < j))) x y H Q) ∨ ∃ i j, x = .str i ∧ y = .str j ∧ Q (.bl (decide (i.cps.toList < j.cps.toList))) H
def rLeA : R2 := fun x y H Q => (rI0 (fun i j => .bl (decide (i ≤ j))) x y H Q) ∨ ∃ i j, x = .str i ∧ y = .str j ∧ Q (.bl (!decide (j.cps.toList < i.cps.toList))) H
theorem op_ltA : OpR X (compareOp .Lt) rLtA := op_lt.or op_lt_str
theorem op_leA : OpR X (compareOp .LtE) rLeA := op_le.or op_le_str
theorem od_lt : OpD K cl rLtA gLt := by
  intro E σ W H S x y dx dy Q w s rx ry h
  cases dx with
  | int i =>
    cases dy with
    | int j => cases rx; cases ry; exact .inl ⟨i, j, rfl, rfl, Po.val w s h (.bl _)⟩
    | _ => exact (po_bad h).elim
  | str i =>
    cases dy with
    | str j => cases rx; cases ry; exact .inr ⟨i, j, rfl, rfl, Po.val w s h (.bl _)⟩
    | _ => exact (po_bad h).elim
  | _ => exact (po_bad h).elim
theorem od_le : OpD K cl rLeA gLe := by
  intro E σ W H S x y dx dy Q w s rx ry h
  cases dx with
  | int i =>
    cases dy with
    | int j => cases rx; cases ry; exact .inl ⟨i, j, rfl, rfl, Po.val w s h (.bl _)⟩
    | _ => exact (po_bad h).elim
  | str i =>
    cases dy with
    | str j => cases rx; cases ry; exact .inr ⟨i, j, rfl, rfl, Po.val w s h (.bl _)⟩
    | _ => exact (po_bad h).elim
  | _ => exact (po_bad h).elim
theorem od_gt : OpD K cl (rI0 fun i j => .bl (decide (j < i))) gGt := by
  intro E σ W H S x y dx dy Q w s rx ry h
  cases dx with
  | int i =>
    cases dy with
    | int j => cases rx; cases ry; exact ⟨i, j, rfl, rfl, Po.val w s h (.bl _)⟩
    | _ => exact (po_bad h).elim
  | _ => exact (po_bad h).elim
theorem od_ge : OpD K cl (rI0 fun i j => .bl (decide (j ≤ i))) gGe := by
  intro E σ W H S x y dx dy Q w s rx ry h
  cases dx with
  | int i =>
    cases dy with
    | int j => cases rx; cases ry; exact ⟨i, j, rfl, rfl, Po.val w s h (.bl _)⟩
    | _ => exact (po_bad h).elim
  | _ => exact (po_bad h).elim
theorem od_isN : OpD K cl (fun x y H Q => y = .non ∧ Q (.bl (decide (x = .non))) H) gIsN := by
  intro E σ W H S x y dx dy Q w s rx ry h
  cases dy with
  | non =>
    cases ry
    refine ⟨rfl, ?_⟩
    cases rx <;> exact Po.val w s h (.bl _)
  | _ => cases dx <;> exact (po_bad h).elim
theorem od_notN : OpD K cl (fun x y H Q => y = .non ∧ Q (.bl (!decide (x = .non))) H) gNotN := by
  intro E σ W H S x y dx dy Q w s rx ry h
  cases dy with
  | non =>
    cases ry
    refine ⟨rfl, ?_⟩
    cases rx <;> exact Po.val w s h (.bl _)
  | _ => cases dx <;> exact (po_bad h).elim
end
section
variable {X : Cx} {cl : Cls_} {E : WX} {a b c : Expr} {fa fb fc : Env → M D} {pos : Pos}
theorem de_cmp {op : CmpOp} {r : R2} {g : D → D → M D} (ho : OpR X (compareOp op) r) (hr : OpD X.K cl r g) (ha : DE X cl E a fa) (hb : DE X cl E b fb) (hm : behindInMarks op b = false) : DE X cl E (.Compare a [op] [b] pos) (c2 g fa fb) := by
  refine pe_imp (pe_cmpR ho ha hb hm) fun σ H Q h => ?_
  refine tE_bind h fun W0 H0 W1 H1 S1 ρ own x dx ev rx h1 => ?_
  refine ⟨W0, H0, W1, S1, ρ, own, ev, (Po.bind ev.wk h1).imp fun dy S2 W2 H2 l w s hh y ry => ?_⟩
  exact hr E σ W2 H2 S2 x y dx dy Q w s (rx.mono (l.lw ev.wk)) ry hh
/-- a bool, as a test -/
def cB (f : Env → M D) : Env → M Bool := fun ρ => do
  let d ← f ρ
  match d with
  | .bl b => M.pure b
  | _ => M.bad
theorem tB_of {G : Gx} {f : Env → M D} {σ : L2.St} {H : Hp} {Q : Bool → Hp → Prop} (h : tB_ G E (cB f) σ H Q) : tE G E f σ H (fun x H' => ∃ k, x = .bl k ∧ Q k H') := by
  obtain ⟨W0, H0, W, S, ρ, own, ev, h⟩ := h
  refine ⟨W0, H0, W, S, ρ, own, ev, (Po.bind ev.wk h).imp fun d S1 W1 H1 l w s hh v rv => ?_⟩
  cases d with
  | bl b => cases rv; exact ⟨b, rfl, Po.now w s hh⟩
  | _ => exact hh.elim
theorem tE_mono {G : Gx} {f : Env → M D} {σ : L2.St} {H : Hp} {Q Q' : VK} (h : tE G E f σ H Q) (i : ∀ v H, Q v H → Q' v H) : tE G E f σ H Q' := by
  obtain ⟨W0, H0, W, S, ρ, own, ev, h⟩ := h
  exact ⟨W0, H0, W, S, ρ, own, ev, h.imp fun d S1 W1 H1 l w s hh v rv => i _ _ (hh v rv)⟩
theorem dt_cmp {op : CmpOp} {r : R2} {g : D → D → M D} (ho : OpR X (compareOp op) r) (hr : OpD X.K cl r g) (ha : DE X cl E a fa) (hb : DE X cl E b fb) (hm : behindInMarks op b = false) : DT X cl E (.Compare a [op] [b] pos) (cB (c2 g fa fb)) := by
  refine pt_imp (pt_cmpR ho ha hb hm) fun σ H Q h => ?_
  have h := tB_of h
  refine tE_bind h fun W0 H0 W1 H1 S1 ρ own x dx ev rx h1 => ?_
  refine ⟨W0, H0, W1, S1, ρ, own, ev, (Po.bind ev.wk h1).imp fun dy S2 W2 H2 l w s hh y ry => ?_⟩
  exact hr E σ W2 H2 S2 x y dx dy _ w s (rx.mono (l.lw ev.wk)) ry hh
/-- an expression that gives a bool (no comparison, and, or, not), as a test -/
theorem dt_val (h : DE X cl E a fa) (he : ∀ whole, isTrue a X.env whole = (do let v ← whole; standAt a.pos; holding [v] (truthy v)) := by intro _; rfl) : DT X cl E a (cB fa) :=
  pt_imp (pt_val h he) fun σ H Q h => tB_of h
def cNotB (f : Env → M Bool) : Env → M Bool := fun ρ => do let b ← f ρ; M.pure (!b)
def cAndB (f g : Env → M Bool) : Env → M Bool := fun ρ => do let b ← f ρ; if b then g ρ else M.pure false
def cOrB (f g : Env → M Bool) : Env → M Bool := fun ρ => do let b ← f ρ; if b then M.pure true else g ρ
theorem tB_bind {G : Gx} {α : Type} {fa : Env → M Bool} {k : Env → Bool → M Bool} {σ : L2.St} {H : Hp} {Q R : Bool → Hp → Prop} (h : tB_ G E (fun ρ => fa ρ >>= k ρ) σ H Q)
    (hk : ∀ W0 H0 W1 H1 S1 ρ own b, Ev G W0 H0 W1 H1 S1 σ ρ own → Po G E σ W1 H1 (k ρ b S1) (fun b _ _ H' => Q b H') → R b H1) : tB_ G E fa σ H R := by
  obtain ⟨W0, H0, W, S, ρ, own, ev, h⟩ := h
  exact ⟨W0, H0, W, S, ρ, own, ev, (Po.bind ev.wk h).imp fun d S1 W1 H1 l w s hh => hk W0 H0 W1 H1 S1 ρ own d (ev.mono l w s) hh⟩
theorem dt_not {ta : Env → M Bool} (h : DT X cl E a ta) : DT X cl E (.UnaryOp .Not a pos) (cNotB ta) :=
  pt_imp (pt_not h) fun σ H Q h => tB_bind (α := Bool) h fun _ _ _ _ _ _ _ b ev hh => Po.now ev.wk ev.st hh
/-- and, or: a test whatever its whole is -/
abbrev DW (X : Cx) (cl : Cls_) (E : WX) (e : Expr) (f : Env → M Bool) : Prop := PW X e (tB_ ⟨X.K, cl⟩ E f)
theorem pw_imp {e : Expr} {t t' : TT} (h : PW X e t) (i : ∀ σ H Q, t' σ H Q → t σ H Q) : PW X e t' := ⟨fun wh pins s σ H Q I q => h.run wh pins s σ H Q I (i σ H Q q)⟩
theorem dw_and1 {ta : Env → M Bool} (h : DT X cl E a ta) : DW X cl E (.BoolOp .And [a] pos) ta := pw_and1 h
theorem dw_or1 {ta : Env → M Bool} (h : DT X cl E a ta) : DW X cl E (.BoolOp .Or [a] pos) ta := pw_or1 h
theorem dw_and {rest : List Expr} {ta tb : Env → M Bool} (ha : DT X cl E a ta) (hb : DW X cl E (.BoolOp .And (b :: rest) pos) tb) : DW X cl E (.BoolOp .And (a :: b :: rest) pos) (cAndB ta tb) := by
  refine pw_imp (pw_and ha hb) fun σ H Q h => tB_bind (α := Bool) h fun W0 H0 W1 H1 S1 ρ own k ev hh => ?_
  cases k with
  | true =>
    rw [if_pos rfl] at hh
    rw [if_pos rfl]
    exact ⟨W0, H0, W1, S1, ρ, own, ev, hh⟩
  | false => exact Po.now ev.wk ev.st hh
theorem dw_or {rest : List Expr} {ta tb : Env → M Bool} (ha : DT X cl E a ta) (hb : DW X cl E (.BoolOp .Or (b :: rest) pos) tb) : DW X cl E (.BoolOp .Or (a :: b :: rest) pos) (cOrB ta tb) := by
  refine pw_imp (pw_or ha hb) fun σ H Q h => tB_bind (α := Bool) h fun W0 H0 W1 H1 S1 ρ own k ev hh => ?_
  cases k with
  | true => exact Po.now ev.wk ev.st hh
  | false =>
    rw [if_neg Bool.false_ne_true] at hh
    rw [if_neg Bool.false_ne_true]
    exact ⟨W0, H0, W1, S1, ρ, own, ev, hh⟩
theorem dw_t {ta : Env → M Bool} (h : DW X cl E a ta) : DT X cl E a ta := PW.pt h
/-! .. as values -/
def cAndV (f g : Env → M D) : Env → M D := fun ρ => do
  let d ← f ρ
  match d with
  | .bl true => g ρ
  | .bl false => M.pure (.bl false)
  | _ => M.bad
def cOrV (f g : Env → M D) : Env → M D := fun ρ => do
  let d ← f ρ
  match d with
  | .bl false => g ρ
  | .bl true => M.pure (.bl true)
  | _ => M.bad
def gNot : D → M D
  | .bl b => M.pure (.bl (!b))
  | _ => M.bad
theorem de_one {op} (h : DE X cl E a fa) : DE X cl E (.BoolOp op [a] pos) fa := pe_one h
theorem de_and {rest : List Expr} (ha : DE X cl E a fa) (hb : DE X cl E (.BoolOp .And (b :: rest) pos) fb) : DE X cl E (.BoolOp .And (a :: b :: rest) pos) (cAndV fa fb) := by
  refine pe_imp (pe_and ha hb) fun σ H Q h => tE_bind h fun W0 H0 W1 H1 S1 ρ own x dx ev rx hh => ?_
  cases dx with
  | bl k =>
    cases rx
    refine ⟨k, rfl, ?_⟩
    cases k with
    | true => rw [if_pos rfl]; exact ⟨W0, H0, W1, S1, ρ, own, ev, hh⟩
    | false => exact Po.val ev.wk ev.st hh (.bl _)
  | _ => exact hh.elim
theorem de_or {rest : List Expr} (ha : DE X cl E a fa) (hb : DE X cl E (.BoolOp .Or (b :: rest) pos) fb) : DE X cl E (.BoolOp .Or (a :: b :: rest) pos) (cOrV fa fb) := by
  refine pe_imp (pe_or ha hb) fun σ H Q h => tE_bind h fun W0 H0 W1 H1 S1 ρ own x dx ev rx hh => ?_
  cases dx with
  | bl k =>
    cases rx
    refine ⟨k, rfl, ?_⟩
    cases k with
    | false => rw [if_neg Bool.false_ne_true]; exact ⟨W0, H0, W1, S1, ρ, own, ev, hh⟩
    | true => exact Po.val ev.wk ev.st hh (.bl _)
  | _ => exact hh.elim
theorem de_not (ha : DE X cl E a fa) : DE X cl E (.UnaryOp .Not a pos) (c1 gNot fa) := by
  refine pe_imp (pe_not ha) fun σ H Q h => tE_bind h fun W0 H0 W1 H1 S1 ρ own x dx ev rx hh => ?_
  cases dx with
  | bl k => cases rx; exact ⟨k, rfl, Po.val ev.wk ev.st hh (.bl _)⟩
  | _ => exact hh.elim
/-- a if t else b -/
def cIf (t : Env → M Bool) (f g : Env → M D) : Env → M D := fun ρ => do let b ← t ρ; if b then f ρ else g ρ
theorem de_if {ta : Env → M Bool} (ht : DT X cl E c ta) (ha : DE X cl E a fa) (hb : DE X cl E b fb) : DE X cl E (.IfExp c a b pos) (cIf ta fa fb) := by
  refine pe_imp (pe_ifExp ht ha hb) fun σ H Q ⟨W0, H0, W, S, ρ, own, ev, h⟩ => ?_
  refine ⟨W0, H0, W, S, ρ, own, ev, (Po.bind ev.wk h).imp fun k S1 W1 H1 l w s hh => ?_⟩
  have ev1 := ev.mono l w s
  cases k with
  | true =>
    refine iteT ?_
    exact ⟨W0, H0, W1, S1, ρ, own, ev1, hh⟩
  | false =>
    refine iteF ?_
    exact ⟨W0, H0, W1, S1, ρ, own, ev1, hh⟩
/-- a op1 b op2 c -/
def cChain (g1 g2 : D → D → M D) (fa fb fc : Env → M D) : Env → M D := fun ρ => do
  let x ← fa ρ
  let y ← fb ρ
  let k ← g1 x y
  match k with
  | .bl true => do let z ← fc ρ; g2 y z
  | .bl false => M.pure (.bl false)
  | _ => M.bad
theorem tChain_of {G : Gx} {r r' : R2} {g1 g2 : D → D → M D} {σ : L2.St} {H : Hp} {Q : VK} (hr : OpD G.K G.cl r g1) (hr' : OpD G.K G.cl r' g2) (h : tE G E (cChain g1 g2 fa fb fc) σ H Q) : tChain r r' (tE G E fa) (tE G E fb) (tE G E fc) σ H Q := by
  refine tE_bind h fun W0 H0 W1 H1 S1 ρ own x dx ev rx h1 => ?_
  refine ⟨W0, H0, W1, S1, ρ, own, ev, (Po.bind ev.wk h1).imp fun dy S2 W2 H2 l w s hh y ry => ?_⟩
  have ev2 := ev.mono l w s
  have rx2 := rx.mono (l.lw ev.wk)
  refine hr E σ W2 H2 S2 x y dx dy _ w s rx2 ry ((Po.bind w hh).imp fun k S3 W3 H3 l3 w3 s3 h3 v rv => ?_)
  have ev3 := ev2.mono l3 w3 s3
  cases k with
  | bl k =>
    cases rv
    refine ⟨k, rfl, ?_⟩
    cases k with
    | true =>
      rw [if_pos rfl]
      refine ⟨W0, H0, W3, S3, ρ, own, ev3, (Po.bind w3 h3).imp fun dz S4 W4 H4 l4 w4 s4 h4 z rz => ?_⟩
      exact hr' E σ W4 H4 S4 y z dy dz Q w4 s4 ((ry.mono (l3.lw w)).mono (l4.lw w3)) rz h4
    | false =>
      rw [if_neg Bool.false_ne_true]
      exact Po.val w3 s3 h3 (.bl _)
  | _ => exact h3.elim
theorem de_chain {op op' : CmpOp} {r r' : R2} {g1 g2 : D → D → M D} (ho : OpR X (compareOp op) r) (ho' : OpR X (compareOp op') r') (hr : OpD X.K cl r g1) (hr' : OpD X.K cl r' g2) (ha : DE X cl E a fa) (hb : DE X cl E b fb) (hc : DE X cl E c fc)
    (hm : lastMarks [op, op'] [b, c] = false := by with_unfolding_all rfl) : DE X cl E (.Compare a [op, op'] [b, c] pos) (cChain g1 g2 fa fb fc) :=
  pe_imp (pe_chain ho ho' ha hb hc hm) fun σ H Q h => tChain_of (G := ⟨X.K, cl⟩) hr hr' h
theorem dt_chain {op op' : CmpOp} {r r' : R2} {g1 g2 : D → D → M D} (ho : OpR X (compareOp op) r) (ho' : OpR X (compareOp op') r') (hr : OpD X.K cl r g1) (hr' : OpD X.K cl r' g2) (ha : DE X cl E a fa) (hb : DE X cl E b fb) (hc : DE X cl E c fc)
    (hm : lastMarks [op, op'] [b, c] = false := by with_unfolding_all rfl) : DT X cl E (.Compare a [op, op'] [b, c] pos) (cB (cChain g1 g2 fa fb fc)) :=
  pt_imp (pt_chain ho ho' ha hb hc hm) fun σ H Q h => tChain_of (G := ⟨X.K, cl⟩) hr hr' (tB_of h)
end
end DN
/-! DN3: argument lists, displays, subscripts, calls, iteration, comprehensions. -/
namespace DN
open PySem PySem.Spec PyProof.Rows L2

/-! ### argument lists, displays -/
def cNil : Env → M (List D) := fun _ => M.pure []
def cCons (fa : Env → M D) (fs : Env → M (List D)) : Env → M (List D) := fun ρ => do let x ← fa ρ; let xs ← fs ρ; M.pure (x :: xs)
section
variable {X : Cx} {cl : Cls_} {E : WX} {e : Expr} {es : List Expr} {fa : Env → M D} {fs : Env → M (List D)} {pos : Pos}
theorem da_nil : DA X cl E [] cNil := pa_imp pa_nil fun σ H Q ⟨W0, H0, W, S, ρ, own, ev, h⟩ => Po.now ev.wk ev.st h [] .nil
theorem da_cons (ha : DE X cl E e fa) (hs : DA X cl E es fs) (hst : starEach (e :: es) X.env = (false, eval e X.env) :: starEach es X.env := by rfl) : DA X cl E (e :: es) (cCons fa fs) := by
  refine pa_imp (pa_cons ha hs hst) fun σ H Q ⟨W0, H0, W, S, ρ, own, ev, h⟩ => ?_
  refine ⟨W0, H0, W, S, ρ, own, ev, (Po.bind ev.wk h).imp fun d S1 W1 H1 l w s hh v rv => ?_⟩
  refine ⟨W0, H0, W1, S1, ρ, own, ev.mono l w s, (Po.bind w hh).imp fun ds S2 W2 H2 l2 w2 s2 h2 vs rvs => ?_⟩
  exact Po.now w2 s2 h2 _ (.cons (rv.mono (l2.lw w)) rvs)
def gTup (ds : List D) : M D := if ds.length ≤ 16777216 then M.pure (.tup ds) else M.bad
def gLst (ds : List D) : M D := if ds.length ≤ 16777216 then M.pure (.lst ds) else M.bad
/-- a list that the store keeps -/
def gLstM (ds : List D) : M D := fun S => if ds.length ≤ 16777216 then .ok (.mut S.length) (S ++ [.lst ds]) else .bad
def cA (g : List D → M D) (fs : Env → M (List D)) : Env → M D := fun ρ => do let xs ← fs ρ; g xs
theorem tA_bind {G : Gx} {k : List D → M D} {σ : L2.St} {H : Hp} {Q : VK} {R : List V → Hp → Prop} (h : tE G E (cA k fs) σ H Q)
    (hk : ∀ W0 H0 W1 H1 S1 ρ own vs ds, Ev G W0 H0 W1 H1 S1 σ ρ own → RpA G W1 H1 vs ds → Po G E σ W1 H1 (k ds S1) (RV G Q) → R vs H1) : tA G E fs σ H R := by
  obtain ⟨W0, H0, W, S, ρ, own, ev, h⟩ := h
  exact ⟨W0, H0, W, S, ρ, own, ev, (Po.bind ev.wk h).imp fun d S1 W1 H1 l w s hh v rv => hk W0 H0 W1 H1 S1 ρ own v d (ev.mono l w s) rv hh⟩
theorem de_tup {k} (hs : DA X cl E es fs) : DE X cl E (.Tuple es k pos) (cA gTup fs) := by
  refine pe_imp (pe_tup hs) fun σ H Q h => tA_bind h fun W0 H0 W1 H1 S1 ρ own vs ds ev r hh => ?_
  obtain ⟨c, hh⟩ := po_if hh
  exact ⟨by rw [r.length]; exact isline c, fun p hp => Po.new ev.wk ev.st hh hp (Rp.newTup ev.wk hp r)⟩
theorem de_lst (hs : DA X cl E es fs) : DE X cl E (.List es pos) (cA gLst fs) := by
  refine pe_imp (pe_lst hs) fun σ H Q h => tA_bind h fun W0 H0 W1 H1 S1 ρ own vs ds ev r hh => ?_
  obtain ⟨c, hh⟩ := po_if hh
  exact ⟨by rw [r.length]; exact isline c, fun p hp => Po.new ev.wk ev.st hh hp (Rp.newLst ev.wk hp r)⟩
/-- a new cell -/
theorem new_cell {G : Gx} {W : Wd} {H : Hp} {S : Store} {p : Addr} {o : HO} {c : Cell} (w : WOk W H) (s : StOk G W H S) (hp : H p = none)
    (hc : ∀ W', Lw W H W' (upd H p o) → CellOk G W' (upd H p o) p c) (t : nt o := by intro _ z; cases z) : ∃ W', Le W H W' (upd H p o) ∧ WOk W' (upd H p o) ∧ StOk G W' (upd H p o) (S ++ [c]) ∧ W'.phi S.length = some p := by
  have nb := w.free hp
  have sm := Same.new (o := o) hp
  have lw : Lw W H ⟨fun n => if n = S.length then some p else W.phi n, fun a => W.B a ∨ a = p⟩ (upd H p o) := by
    refine ⟨fun n a h => ?_, fun a h => ?_, fun b u h _ _ => sm b u h⟩
    · have ne : n ≠ S.length := fun e => by subst e; rw [s.top _ (Nat.le_refl _)] at h; cases h
      show (if n = S.length then some p else W.phi n) = some a
      rw [if_neg ne]; exact h
    · rcases h with h | rfl
      · exact .inl h
      · exact .inr (.of hp)
  refine ⟨_, ⟨lw.ph, fun n a h => ?_, fun a h => .inl h, lw.Bn, fun b u h _ => .inr (sm b u h)⟩, ⟨fun a h => ?_, fun n a h => ?_, fun n m a h1 h2 => ?_⟩, ⟨fun n c' h => ?_, fun n h => ?_, s.tb.ext sm⟩, if_pos rfl⟩
  · by_cases e : n = S.length
    · have h : (if n = S.length then some p else W.phi n) = some a := h
      rw [if_pos e] at h
      cases h; exact .inr (.of hp)
    · have h : (if n = S.length then some p else W.phi n) = some a := h
      rw [if_neg e] at h
      exact .inl h
  · rcases h with h | rfl
    · obtain ⟨u, e, tu⟩ := w.tr a h
      exact ⟨u, sm a u e, tu⟩
    · exact ⟨o, upd_same, t⟩
  · have h : (if n = S.length then some p else W.phi n) = some a := h
    by_cases e : n = S.length
    · rw [if_pos e] at h
      cases h; exact .inr rfl
    · rw [if_neg e] at h
      exact .inl (w.rg n a h)
  · have h1 : (if n = S.length then some p else W.phi n) = some a := h1
    have h2 : (if m = S.length then some p else W.phi m) = some a := h2
    by_cases e : n = S.length
    · rw [if_pos e] at h1
      cases h1
      by_cases e2 : m = S.length
      · rw [e, e2]
      · rw [if_neg e2] at h2
        exact absurd (w.rg m _ h2) nb
    · rw [if_neg e] at h1
      by_cases e2 : m = S.length
      · rw [if_pos e2] at h2
        cases h2
        exact absurd (w.rg n _ h1) nb
      · rw [if_neg e2] at h2
        exact w.ij n m a h1 h2
  · by_cases hn : n < S.length
    · rw [List.getElem?_append_left hn] at h
      obtain ⟨a, e1, e2⟩ := s.at_ n c' h
      refine ⟨a, lw.ph n a e1, e2.same lw fun u q => sm a u q⟩
    · have e : n = S.length := by
        have := (List.getElem?_eq_some_iff.mp h).1
        rw [List.length_append, List.length_singleton] at this
        omega
      subst e
      rw [List.getElem?_append_right (Nat.le_refl _), Nat.sub_self] at h
      cases h
      exact ⟨p, if_pos rfl, hc _ lw⟩
  · rw [List.length_append, List.length_singleton] at h
    show (if n = S.length then some p else W.phi n) = none
    rw [if_neg (by omega)]
    exact s.top n (by omega)
theorem de_lstM (hs : DA X cl E es fs) : DE X cl E (.List es pos) (cA gLstM fs) := by
  refine pe_imp (pe_lst hs) fun σ H Q h => tA_bind h fun W0 H0 W1 H1 S1 ρ own vs ds ev r hh => ?_
  unfold gLstM at hh
  by_cases c : ds.length ≤ 16777216
  · rw [if_pos c] at hh
    refine ⟨by rw [r.length]; exact isline c, fun p hp => ?_⟩
    obtain ⟨W', l, w, s, e⟩ := new_cell (c := .lst ds) ev.wk ev.st hp fun W' lw => ⟨vs, upd_same, r.mono lw⟩
    exact hh W' _ l w s _ (.mut e)
  · rw [if_neg c] at hh
    exact hh.elim
end

/-! ### items, slices -/
def sGet (n : Nat) : M Cell := fun S => match S[n]? with
  | some c => .ok c S
  | none => .bad
def ofOpt {α : Type} : Option α → M α
  | some d => M.pure d
  | none => M.bad
def gIx : D → D → M D
  | .tup xs, .int i => ofOpt (atI xs i)
  | .lst xs, .int i => ofOpt (atI xs i)
  | .scr ns, .int i => ofOpt ((atI ns i).map D.int)
  | .str z, .int i => if z.length ≤ 16777216 then ofOpt ((atI z.cps.toList i).map fun c => D.str ⟨#[c]⟩) else M.bad
  | .mut n, .int i => fun S => match S[n]? with
    | some (.lst xs) => ofOpt (atI xs i) S
    | _ => .bad
  | _, _ => M.bad
theorem atI_map {α β : Type} (f : α → β) (xs : List α) (i : Int) : atI (xs.map f) i = (atI xs i).map f := by
  unfold atI
  rw [List.length_map]
  cases ixN xs.length i with
  | none => rfl
  | some j => simp
theorem atI_rel {G : Gx} {W : Wd} {H : Hp} {vs : List V} {ds : List D} {i : Int} {d : D} (r : RpA G W H vs ds) (h : atI ds i = some d) : ∃ v, atI vs i = some v ∧ Rp G W H v d := by
  unfold atI at h ⊢
  rw [r.length]
  cases q : ixN ds.length i with
  | none => rw [q] at h; cases h
  | some j =>
    rw [q] at h
    exact r.get h
section
variable {X : Cx} {cl : Cls_} {K : PySem.W.Frag}
theorem po_opt {G : Gx} {E : WX} {σ : L2.St} {W : Wd} {H : Hp} {S : Store} {α : Type} {o : Option α} {R : α → Store → Wd → Hp → Prop} (h : Po G E σ W H (ofOpt o S) R) : ∃ d, o = some d ∧ Po G E σ W H (.ok d S) R := by
  cases o with
  | none => exact h.elim
  | some d => exact ⟨d, rfl, h⟩
theorem od_ix : OpD K cl (rIx K) gIx := by
  intro E σ W H S x y dx dy Q w s rx ry h
  cases dy with
  | int i =>
    cases ry
    cases dx with
    | tup xs =>
      obtain ⟨d, e, h⟩ := po_opt h
      cases rx with
      | tup ha ra =>
        obtain ⟨v, e1, r1⟩ := atI_rel ra e
        exact .inr (.inl ⟨_, _, i, v, rfl, rfl, ha.sq, e1, Po.val w s h r1⟩)
    | lst xs =>
      obtain ⟨d, e, h⟩ := po_opt h
      cases rx with
      | lst ha _ ra =>
        obtain ⟨v, e1, r1⟩ := atI_rel ra e
        exact .inl ⟨_, _, i, v, rfl, rfl, SqL.of ha, e1, Po.val w s h r1⟩
    | scr ns =>
      obtain ⟨d, e, h⟩ := po_opt h
      obtain ⟨k, e1, e2⟩ := Option.map_eq_some_iff.mp e
      subst e2
      cases rx with
      | scr ha => exact .inl ⟨_, _, i, .int k, rfl, rfl, ha.sq, by rw [atI_map, e1]; rfl, Po.val w s h (.int k)⟩
    | str z =>
      obtain ⟨c, h⟩ := po_if h
      obtain ⟨d, e, h⟩ := po_opt h
      obtain ⟨k, e1, e2⟩ := Option.map_eq_some_iff.mp e
      subst e2
      cases rx
      exact .inr (.inr ⟨z, i, k, rfl, rfl, isline c, e1, Po.val w s h (.str _)⟩)
    | «mut» n =>
      unfold gIx at h
      dsimp only at h
      cases q : S[n]? with
      | none => rw [q] at h; exact h.elim
      | some c =>
        rw [q] at h
        cases c with
        | dct _ => exact h.elim
        | ins _ _ => exact h.elim
        | lst xs =>
          obtain ⟨d, e, h⟩ := po_opt h
          obtain ⟨a, e1, vs, e2, ra⟩ := s.at_ n _ q
          cases rx with
          | «mut» e0 =>
            rw [e1] at e0; cases e0
            obtain ⟨v, e3, r1⟩ := atI_rel ra e
            exact .inl ⟨_, _, i, v, rfl, rfl, SqL.of e2, e3, Po.val w s h r1⟩
    | _ => exact (po_bad h).elim
  | _ => cases dx <;> exact (po_bad h).elim
variable {E : WX} {a b : Expr} {fa fb : Env → M D} {pos : Pos}
theorem de_ix (ha : DE X cl E a fa) (hb : DE X cl E b fb) (hs : PlainIx b := by exact fun _ _ => rfl) : DE X cl E (.Subscript a b pos) (c2 gIx fa fb) := by
  refine pe_imp (pe_ix ix_seq ha hb hs) fun σ H Q h => ?_
  refine tE_bind h fun W0 H0 W1 H1 S1 ρ own x dx ev rx h1 => ?_
  refine ⟨W0, H0, W1, S1, ρ, own, ev, (Po.bind ev.wk h1).imp fun dy S2 W2 H2 l w s hh y ry => ?_⟩
  exact od_ix E σ W2 H2 S2 x y dx dy Q w s (rx.mono (l.lw ev.wk)) ry hh
/-! slices -/
def cutD {α : Type} (xs : List α) (lo hi : Option Int) : List α := (xs.drop (HT.sIx xs.length 0 lo)).take (HT.sIx xs.length xs.length hi - HT.sIx xs.length 0 lo)
def gSl (x : D) (lo hi : Option Int) : M D := match x with
  | .tup xs => M.pure (.tup (cutD xs lo hi))
  | .lst xs => M.pure (.lst (cutD xs lo hi))
  | .str z => if z.length ≤ 16777216 then M.pure (.str (cutS z lo hi)) else M.bad
  | _ => M.bad
def cPart (fa : Env → M D) : Env → M (Option Int) := fun ρ => do
  let d ← fa ρ
  match d with
  | .int i => M.pure (some i)
  | _ => M.bad
def cNoP : Env → M (Option Int) := fun _ => M.pure none
def cSl (fa : Env → M D) (fl fh : Env → M (Option Int)) : Env → M D := fun ρ => do let x ← fa ρ; let l ← fl ρ; let h ← fh ρ; gSl x l h
def tO (G : Gx) (E : WX) (f : Env → M (Option Int)) : TO := fun σ H Q => ∃ W0 H0 W S ρ own, Ev G W0 H0 W H S σ ρ own ∧ Po G E σ W H (f ρ S) (fun o _ _ H' => Q o H')
abbrev DO_ (X : Cx) (cl : Cls_) (E : WX) (e : Option Expr) (f : Env → M (Option Int)) : Prop := PO X e (tO ⟨X.K, cl⟩ E f)
theorem po_imp {e : Option Expr} {t t' : TO} (h : PO X e t) (i : ∀ σ H Q, t' σ H Q → t σ H Q) : PO X e t' := ⟨fun pins s σ H Q I q => h.run pins s σ H Q I (i σ H Q q)⟩
theorem do_none : DO_ X cl E none cNoP := po_imp po_none fun σ H Q ⟨W0, H0, W, S, ρ, own, ev, h⟩ => Po.now ev.wk ev.st h
theorem do_some (ha : DE X cl E a fa) : DO_ X cl E (some a) (cPart fa) := by
  refine po_imp (po_some ha) fun σ H Q ⟨W0, H0, W, S, ρ, own, ev, h⟩ => ?_
  refine ⟨W0, H0, W, S, ρ, own, ev, (Po.bind ev.wk h).imp fun d S1 W1 H1 l w s hh v rv => ?_⟩
  cases d with
  | int i => cases rv; exact ⟨i, rfl, Po.now w s hh⟩
  | _ => exact hh.elim
def rSlX (K : PySem.W.Frag) : V → Option Int → Option Int → Hp → VK → Prop := fun x lo hi H Q => rSlA K x lo hi H Q ∨ rSlL K x lo hi H Q ∨ ∃ z, x = .str z ∧ z.length ≤ sizeLine ∧ Q (.str (cutS z lo hi)) H
theorem cutV_cut (xs : List V) (lo hi : Option Int) : cutV xs lo hi = cutD xs lo hi := rfl
theorem RpA.cut {G : Gx} {W : Wd} {H : Hp} {vs : List V} {ds : List D} (r : RpA G W H vs ds) (lo hi : Option Int) : RpA G W H (cutD vs lo hi) (cutD ds lo hi) := by
  unfold cutD
  rw [r.length]
  exact (r.drop _).take _
theorem cut_whole {α : Type} {xs : List α} {lo hi : Option Int} (h : HT.sIx xs.length 0 lo = 0 ∧ HT.sIx xs.length xs.length hi = xs.length) : cutD xs lo hi = xs := by
  unfold cutD
  rw [h.1, h.2, List.drop_zero, Nat.sub_zero, List.take_length]
theorem sd_sl {σ : L2.St} {W : Wd} {H : Hp} {S : Store} {x : V} {dx : D} {lo hi : Option Int} {Q : VK} (w : WOk W H) (s : StOk ⟨K, cl⟩ W H S) (rx : Rp ⟨K, cl⟩ W H x dx) (h : Po ⟨K, cl⟩ E σ W H (gSl dx lo hi S) (RV ⟨K, cl⟩ Q)) : rSlX K x lo hi H Q := by
  cases dx with
  | tup xs =>
    cases rx with
    | @tup a vs _ ha ra =>
      refine .inl ⟨a, vs, rfl, ha.sq, fun e => ?_, fun e p hp => ?_⟩
      · rw [ra.length] at e
        have h : Po ⟨K, cl⟩ E σ W H (.ok (.tup (cutD xs lo hi)) S) (RV ⟨K, cl⟩ Q) := h
        rw [cut_whole e] at h
        exact Po.val w s h (.tup ha ra)
      · exact Po.new w s h hp (Rp.newTup w hp (ra.cut lo hi))
  | lst xs =>
    cases rx with
    | @lst a vs _ ha _ ra => exact .inr (.inl ⟨a, vs, rfl, SqL.of ha, fun p hp => Po.new w s h hp (Rp.newLst w hp (ra.cut lo hi))⟩)
  | str z =>
    cases rx
    obtain ⟨c, h⟩ := po_if h
    exact .inr (.inr ⟨z, rfl, isline c, Po.val w s h (.str _)⟩)
  | _ => exact (po_bad h).elim
theorem de_sl {lo hi : Option Expr} {fl fh : Env → M (Option Int)} {p2 : Pos} (ha : DE X cl E a fa) (hl : DO_ X cl E lo fl) (hh : DO_ X cl E hi fh) : DE X cl E (.Subscript a (.Slice lo hi none p2) pos) (cSl fa fl fh) := by
  refine pe_imp (pe_slice (r := rSlX X.K) (sl_tupA.or (sl_list.or sl_str)) ha hl hh) fun σ H Q h => ?_
  refine tE_bind h fun W0 H0 W1 H1 S1 ρ own x dx ev rx h1 => ?_
  refine ⟨W0, H0, W1, S1, ρ, own, ev, (Po.bind ev.wk h1).imp fun l S2 W2 H2 l2 w2 s2 h2 => ?_⟩
  have ev2 := ev.mono l2 w2 s2
  have rx2 := rx.mono (l2.lw ev.wk)
  refine ⟨W0, H0, W2, S2, ρ, own, ev2, (Po.bind w2 h2).imp fun u S3 W3 H3 l3 w3 s3 h3 => ?_⟩
  exact sd_sl w3 s3 (rx2.mono (l3.lw w2)) h3
end

/-! ### calls of built-ins -/
def CallD (K : PySem.W.Frag) (cl : Cls_) (r : List V → Hp → VK → Prop) (g : List D → M D) : Prop :=
  ∀ (E : WX) (σ : L2.St) (W : Wd) (H : Hp) (S : Store) (vs : List V) (ds : List D) (Q : VK), WOk W H → StOk ⟨K, cl⟩ W H S → RpA ⟨K, cl⟩ W H vs ds → Po ⟨K, cl⟩ E σ W H (g ds S) (RV ⟨K, cl⟩ Q) → r vs H Q
def gLen : List D → M D
  | [.tup xs] => M.pure (.int xs.length)
  | [.lst xs] => M.pure (.int xs.length)
  | [.scr xs] => M.pure (.int xs.length)
  | [.str z] => if z.length ≤ 16777216 then M.pure (.int z.length) else M.bad
  | _ => M.bad
def gInt : List D → M D
  | [.int i] => M.pure (.int i)
  | [.bl k] => M.pure (.int (if k then 1 else 0))
  | _ => M.bad
def gAbs : List D → M D
  | [.int i] => M.pure (.int (if i < 0 then -i else i))
  | _ => M.bad
def gMax2 : List D → M D
  | [.int i, .int j] => M.pure (.int (if j > i then j else i))
  | _ => M.bad
def gMin2 : List D → M D
  | [.int i, .int j] => M.pure (.int (if j < i then j else i))
  | _ => M.bad
def gTuple : List D → M D
  | [.tup xs] => M.pure (.tup xs)
  | [.lst xs] => M.pure (.tup xs)
  | _ => M.bad
def gList : List D → M D
  | [.tup xs] => M.pure (.lst xs)
  | [.lst xs] => M.pure (.lst xs)
  | _ => M.bad
def blsD : List D → Option (List Bool)
  | [] => some []
  | .bl b :: ds => (blsD ds).map (b :: ·)
  | _ :: _ => none
def gAll : List D → M D
  | [.lst xs] => match blsD xs with
    | some bs => M.pure (.bl (bs.all id))
    | none => M.bad
  | _ => M.bad
def gAny : List D → M D
  | [.lst xs] => match blsD xs with
    | some bs => M.pure (.bl (bs.any id))
    | none => M.bad
  | _ => M.bad
section
variable {X : Cx} {cl : Cls_} {K : PySem.W.Frag}
theorem RpA.inv1 {G : Gx} {W : Wd} {H : Hp} {vs : List V} {d : D} (r : RpA G W H vs [d]) : ∃ v, vs = [v] ∧ Rp G W H v d := by
  cases r with
  | cons r t => cases t; exact ⟨_, rfl, r⟩
theorem RpA.inv2 {G : Gx} {W : Wd} {H : Hp} {vs : List V} {d e : D} (r : RpA G W H vs [d, e]) : ∃ v u, vs = [v, u] ∧ Rp G W H v d ∧ Rp G W H u e := by
  cases r with
  | cons r t =>
    obtain ⟨u, rfl, r2⟩ := RpA.inv1 t
    exact ⟨_, u, rfl, r, r2⟩
theorem RpA.bls {G : Gx} {W : Wd} {H : Hp} : ∀ {ds : List D} {vs : List V} {bs : List Bool}, RpA G W H vs ds → blsD ds = some bs → vs = bs.map V.bl
  | [], _, _, .nil, e => by simp [blsD] at e; subst e; rfl
  | d :: ds, _, bs, .cons r t, e => by
    cases d with
    | bl b =>
      simp only [blsD, Option.map_eq_some_iff] at e
      obtain ⟨bs', e1, e2⟩ := e
      subst e2
      cases r
      rw [RpA.bls t e1]; rfl
    | _ => simp [blsD] at e
theorem cd_len : CallD K cl (fun xs H Q => ∃ x n, xs = [x] ∧ LenV K x H n ∧ Q (.int n) H) gLen := by
  intro E σ W H S vs ds Q w s r h
  match ds, h with
  | [.tup xs], h =>
    obtain ⟨v, rfl, rv⟩ := r.inv1
    cases rv with
    | tup ha ra => exact ⟨_, xs.length, rfl, .inr ⟨_, ha.sq, ra.length.symm⟩, Po.val w s h (.int _)⟩
  | [.lst xs], h =>
    obtain ⟨v, rfl, rv⟩ := r.inv1
    cases rv with
    | lst ha _ ra => exact ⟨_, xs.length, rfl, .inl ⟨_, SqL.of ha, ra.length.symm⟩, Po.val w s h (.int _)⟩
  | [.scr xs], h =>
    obtain ⟨v, rfl, rv⟩ := r.inv1
    cases rv with
    | scr ha => exact ⟨_, xs.length, rfl, .inl ⟨_, ha.sq, by rw [List.length_map]⟩, Po.val w s h (.int _)⟩
  | [.str z], h =>
    obtain ⟨v, rfl, rv⟩ := r.inv1
    cases rv
    obtain ⟨c, h⟩ := po_if h
    exact ⟨_, z.length, rfl, ⟨isline c, rfl⟩, Po.val w s h (.int _)⟩
theorem cd_int : CallD K cl (fun xs H Q => (∃ i, xs = [.int i] ∧ Q (.int i) H) ∨ ∃ k, xs = [.bl k] ∧ Q (.int (if k then 1 else 0)) H) gInt := by
  intro E σ W H S vs ds Q w s r h
  match ds, h with
  | [.int i], h =>
    obtain ⟨v, rfl, rv⟩ := r.inv1
    cases rv
    exact .inl ⟨i, rfl, Po.val w s h (.int _)⟩
  | [.bl k], h =>
    obtain ⟨v, rfl, rv⟩ := r.inv1
    cases rv
    exact .inr ⟨k, rfl, Po.val w s h (.int _)⟩
theorem cd_abs : CallD K cl (fun xs H Q => ∃ i, xs = [.int i] ∧ Q (.int (if i < 0 then -i else i)) H) gAbs := by
  intro E σ W H S vs ds Q w s r h
  match ds, h with
  | [.int i], h =>
    obtain ⟨v, rfl, rv⟩ := r.inv1
    cases rv
    exact ⟨i, rfl, Po.val w s h (.int _)⟩
theorem cd_max2 : CallD K cl (fun xs H Q => ∃ i j, xs = [.int i, .int j] ∧ Q (.int (if j > i then j else i)) H) gMax2 := by
  intro E σ W H S vs ds Q w s r h
  match ds, h with
  | [.int i, .int j], h =>
    obtain ⟨v, u, rfl, rv, ru⟩ := r.inv2
    cases rv; cases ru
    exact ⟨i, j, rfl, Po.val w s h (.int _)⟩
theorem cd_min2 : CallD K cl (fun xs H Q => ∃ i j, xs = [.int i, .int j] ∧ Q (.int (if j < i then j else i)) H) gMin2 := by
  intro E σ W H S vs ds Q w s r h
  match ds, h with
  | [.int i, .int j], h =>
    obtain ⟨v, u, rfl, rv, ru⟩ := r.inv2
    cases rv; cases ru
    exact ⟨i, j, rfl, Po.val w s h (.int _)⟩
theorem cd_tuple : CallD K cl (fun xs H Q => ∃ p ys, xs = [.ref p] ∧ ((SqL K H p ys ∧ ∀ l, H l = none → Q (.ref l) (upd H l (.tup ys))) ∨ (SqT K H p ys ∧ Q (.ref p) H))) gTuple := by
  intro E σ W H S vs ds Q w s r h
  match ds, h with
  | [.tup xs], h =>
    obtain ⟨v, rfl, rv⟩ := r.inv1
    cases rv with
    | tup ha ra => exact ⟨_, _, rfl, .inr ⟨ha.sq, Po.val w s h (.tup ha ra)⟩⟩
  | [.lst xs], h =>
    obtain ⟨v, rfl, rv⟩ := r.inv1
    cases rv with
    | lst ha _ ra => exact ⟨_, _, rfl, .inl ⟨SqL.of ha, fun p hp => Po.new w s h hp (Rp.newTup w hp ra)⟩⟩
theorem cd_list : CallD K cl (fun xs H Q => ∃ p ys, xs = [.ref p] ∧ (SqL K H p ys ∨ SqT K H p ys) ∧ ∀ l, H l = none → Q (.ref l) (upd H l (.lst ys))) gList := by
  intro E σ W H S vs ds Q w s r h
  match ds, h with
  | [.tup xs], h =>
    obtain ⟨v, rfl, rv⟩ := r.inv1
    cases rv with
    | tup ha ra => exact ⟨_, _, rfl, .inr ha.sq, fun p hp => Po.new w s h hp (Rp.newLst w hp ra)⟩
  | [.lst xs], h =>
    obtain ⟨v, rfl, rv⟩ := r.inv1
    cases rv with
    | lst ha _ ra => exact ⟨_, _, rfl, .inl (SqL.of ha), fun p hp => Po.new w s h hp (Rp.newLst w hp ra)⟩
theorem cd_all : CallD K cl (rAll K) gAll := by
  intro E σ W H S vs ds Q w s r h
  match ds, h with
  | [.lst xs], h =>
    obtain ⟨v, rfl, rv⟩ := r.inv1
    cases rv with
    | lst ha _ ra =>
      unfold gAll at h
      dsimp only at h
      cases q : blsD xs with
      | none => rw [q] at h; exact h.elim
      | some bs =>
        rw [q] at h
        have e := ra.bls q
        subst e
        exact ⟨_, bs, rfl, SqL.of ha, Po.val w s h (.bl _)⟩
theorem cd_any : CallD K cl (rAny K) gAny := by
  intro E σ W H S vs ds Q w s r h
  match ds, h with
  | [.lst xs], h =>
    obtain ⟨v, rfl, rv⟩ := r.inv1
    cases rv with
    | lst ha _ ra =>
      unfold gAny at h
      dsimp only at h
      cases q : blsD xs with
      | none => rw [q] at h; exact h.elim
      | some bs =>
        rw [q] at h
        have e := ra.bls q
        subst e
        exact ⟨_, bs, rfl, SqL.of ha, Po.val w s h (.bl _)⟩
variable {E : WX} {x : Str} {p pos : Pos} {e : Expr} {es : List Expr} {fs : Env → M (List D)} {id T : String} {r : List V → Hp → VK → Prop} {g : List D → M D}
theorem de_callB (hc : CallR X (.builtin id) r) (hd : CallD X.K cl r g) (hm : X.mg x = none) (ha : DA X cl E (e :: es) fs) (hv : bootBuiltins x = some (.builtin id) := by decide +kernel) (hg : Gl X x := by rfl) (hn : x ≠ "__name__" := by decide) (hdb : (x == ("__debug__" : Str)) = false := by decide)
    (he : starEach (e :: es) X.env = (false, eval e X.env) :: starEach es X.env := by rfl) (hpl : (backTo pos (starEach es X.env)).any (·.1) = false := by rfl) : DE X cl E (.Call (.Name x p) (e :: es) [] pos) (cA g fs) :=
  pe_imp (pe_callB hc hg hm hv ha hn hdb he hpl) fun σ H Q h => tA_bind h fun W0 H0 W1 H1 S1 ρ own vs ds ev rv hh => hd E σ W1 H1 S1 vs ds Q ev.wk ev.st rv hh
theorem de_callTy (hc : CallR X (.type T) r) (hd : CallD X.K cl r g) (hm : X.mg x = none) (ha : DA X cl E (e :: es) fs) (hv : bootBuiltins x = some (.type T) := by decide +kernel) (hg : Gl X x := by rfl) (hn : x ≠ "__name__" := by decide) (hdb : (x == ("__debug__" : Str)) = false := by decide)
    (he : starEach (e :: es) X.env = (false, eval e X.env) :: starEach es X.env := by rfl) (hpl : (backTo pos (starEach es X.env)).any (·.1) = false := by rfl) : DE X cl E (.Call (.Name x p) (e :: es) [] pos) (cA g fs) :=
  pe_imp (pe_callTy hc hg hm hv ha hn hdb he hpl) fun σ H Q h => tA_bind h fun W0 H0 W1 H1 S1 ρ own vs ds ev rv hh => hd E σ W1 H1 S1 vs ds Q ev.wk ev.st rv hh
end

/-! ### isinstance with a built-in class -/
def tyD : D → Option String
  | .non => some "NoneType"
  | .bl _ => some "bool"
  | .int _ => some "int"
  | .str _ => some "str"
  | .tup _ => some "tuple"
  | .lst _ => some "list"
  | .dct _ => some "dict"
  | .scr _ => some "list"
  | .opq => some "dict"
  | _ => none
def isiD (T : String) (t : String) : Bool := t == T || (t == "bool" && T == "int")
def gIsi (T : String) (d : D) : M D := match tyD d with
  | some t => M.pure (.bl (isiD T t))
  | none => M.bad
def tyNames : List String := ["NoneType", "bool", "int", "str", "tuple", "list", "dict"]
theorem isi_kit (T t : String) (hT : T ∈ ["bool", "int", "str", "tuple", "list", "dict"]) (ht : t ∈ tyNames) : kitB t T = some (isiD T t) := by
  have key : ∀ T ∈ ["bool", "int", "str", "tuple", "list", "dict"], ∀ t ∈ tyNames, kitB t T = some (isiD T t) := by decide +kernel
  exact key T hT t ht
section
variable {X : Cx} {cl : Cls_} {E : WX} {a : Expr} {fa : Env → M D} {pos : Pos}
theorem LstAt.tyx {G : Gx} {W : Wd} {H : Hp} {a : Addr} {xs : List V} (h : LstAt G W H a xs) : TyX G.K H (.ref a) (.type "list") := by
  rcases h with ⟨h | ⟨o, h⟩, _⟩ | ⟨o, its, n, h, hc, _⟩
  · exact .base (.lst h)
  · exact .base (.frz h)
  · exact .kList h hc
theorem TupAt.tyx {G : Gx} {W : Wd} {H : Hp} {a : Addr} {xs : List V} (h : TupAt G W H a xs) : TyX G.K H (.ref a) (.type "tuple") := by
  rcases h with ⟨h | ⟨o, h⟩, _⟩ | ⟨o, its, n, h, hc, _⟩
  · exact .base (.tup h)
  · exact .fTuple h
  · exact .kTuple h hc
def TyZ (K : PySem.W.Frag) (H : Hp) (x : V) (t : Value) : Prop := TyX K H x t ∨ (t = .type "dict" ∧ ∃ a, x = .ref a ∧ H a = some (OpqO a))
def rIsiZ (K : PySem.W.Frag) : List V → Hp → VK → Prop := fun xs H Q => ∃ (x c : V) (t u : Value) (b : Bool), xs = [x, c] ∧ ClsV c u ∧ TyZ K H x t ∧ PySem.W.kitOne K t u = some b ∧ Q (.bl b) H
theorem call_isiZ {X : Cx} : CallR X (.builtin "isinstance") (rIsiZ X.K) := by
  intro pins s σ H xs us Q I r ⟨x, c, t, u, b, ex, k, ty, e, q⟩
  rcases ty with ty | ⟨et, a, ea, ha⟩
  · exact call_isi pins s σ H xs us Q I r ⟨x, c, t, u, b, ex, k, ty, e, q⟩
  · subst ex et ea
    obtain ⟨u1, u2, rfl, r1, r2⟩ := vals2 r
    have e2 := k.eq r2
    subst e2
    cases r1
    obtain ⟨p, _⟩ := I.hok a _ ha
    exact PySem.W.kia_one PySem.W.kitx_dict I.kIn p e (fun z => nomatch z) fun tk => ⟨.bl b, H, I.tok tk, rfl, q⟩
theorem Rp.tyx {G : Gx} {W : Wd} {H : Hp} {v : V} {d : D} {t : String} (r : Rp G W H v d) (h : tyD d = some t) : TyZ G.K H v (.type t) ∧ t ∈ tyNames := by
  cases r with
  | opq ha _ => cases h; exact ⟨.inr ⟨rfl, _, rfl, ha⟩, by decide⟩
  | cls _ => cases h
  | exn0 _ _ _ => cases h
  | exn1 _ _ _ _ _ _ => cases h
  | non => cases h; exact ⟨.inl (.base .non), by decide⟩
  | bl b => cases h; exact ⟨.inl (.base (.bl b)), by decide⟩
  | int i => cases h; exact ⟨.inl (.base (.int i)), by decide⟩
  | str x => cases h; exact ⟨.inl (.base (.str x)), by decide⟩
  | tup ha _ => cases h; exact ⟨.inl ha.tyx, by decide⟩
  | lst ha _ _ => cases h; exact ⟨.inl (.base (.lst ha)), by decide⟩
  | dct ha _ _ => cases h; exact ⟨.inl (.base (.dK ha)), by decide⟩
  | scr ha => cases h; exact ⟨.inl ha.tyx, by decide⟩
  | «mut» _ => cases h
  | ins _ _ _ _ => cases h
theorem de_isi {x : Str} {T : String} {p p2 : Pos} (hT : T ∈ ["bool", "int", "str", "tuple", "list", "dict"]) (hm : X.mg "isinstance" = none) (hm2 : X.mg x = none) (ha : DE X cl E a fa) (hv : bootBuiltins x = some (.type T) := by decide +kernel) (hg : Gl X "isinstance" := by rfl) (hg2 : Gl X x := by rfl)
    (hn : x ≠ "__name__" := by decide) (hdb : (x == ("__debug__" : Str)) = false := by decide)
    (he : starEach (a :: [.Name x p2]) X.env = (false, eval a X.env) :: starEach [.Name x p2] X.env := by rfl) (he2 : starEach (.Name x p2 :: []) X.env = (false, eval (.Name x p2) X.env) :: starEach [] X.env := by rfl) (hpl : (backTo pos (starEach [.Name x p2] X.env)).any (·.1) = false := by rfl) :
    DE X cl E (.Call (.Name "isinstance" p) [a, .Name x p2] [] pos) (c1 (gIsi T) fa) := by
  refine pe_imp (pe_callB call_isiZ hg hm (by decide +kernel) (pa_cons ha (pa_cons (pe_bltn (v := .ty T) hg2 hm2 hv rfl hn hdb) pa_nil he2) he) (by decide) (by decide) he hpl) fun σ H Q h => ?_
  refine tE_bind h fun W0 H0 W1 H1 S1 ρ own x dx ev rx hh => ?_
  unfold gIsi at hh
  cases q : tyD dx with
  | none => rw [q] at hh; exact hh.elim
  | some t =>
    rw [q] at hh
    obtain ⟨ty, ht⟩ := rx.tyx q
    exact ⟨x, .ty T, .type t, .type T, _, rfl, .ty T, ty, kit_ty (isi_kit T t hT ht), Po.val ev.wk ev.st hh (.bl _)⟩
end
end DN
/-! DN4: what is walked, targets, statements, comprehensions. -/
namespace DN
open PySem PySem.Spec PyProof.Rows L2

/-! ### what is walked -/
structure Wk (G : Gx) (J : It) (ds : List D) (W : Wd) (H : Hp) : Prop where
  go : ∀ W1 H1, Lw W H W1 H1 → WOk W1 H1 → ∀ (i : Nat) (d : D), ds[i]? = some d → J.go i H1 ∧ ∀ x H2, J.yld i H1 x H2 → Same H1 H2 ∧ Rp G W1 H2 x d
  stop : ∀ W1 H1, Lw W H W1 H1 → ∀ i, ds.length ≤ i → J.stop i H1
def tI (G : Gx) (E : WX) (f : Env → M (List D)) : TI := fun σ H R => ∃ W0 H0 W S ρ own, Ev G W0 H0 W H S σ ρ own ∧ Po G E σ W H (f ρ S) (fun ds _ W' H' => ∀ J, Wk G J ds W' H' → R J H')
abbrev DI (X : Cx) (cl : Cls_) (E : WX) (tg e : Expr) (f : Env → M (List D)) : Prop := PI X tg e (tI ⟨X.K, cl⟩ E f)
theorem pi_imp {X : Cx} {tg e : Expr} {t t' : TI} (h : PI X tg e t) (i : ∀ σ H R, t' σ H R → t σ H R) : PI X tg e t' := ⟨fun pins s σ H R I q => h.run pins s σ H R I (i σ H R q)⟩
theorem pi_or {X : Cx} {tg e : Expr} {t u : TI} (h : PI X tg e t) (k : PI X tg e u) : PI X tg e (fun σ H R => t σ H R ∨ u σ H R) :=
  ⟨fun pins s σ H R I q => q.elim (h.run pins s σ H R I) (k.run pins s σ H R I)⟩
def chD (z : Str) : List D := z.cps.toList.map fun c => D.str ⟨#[c]⟩
def itemsD : D → M (List D)
  | .tup xs => M.pure xs
  | .lst xs => M.pure xs
  | .scr ns => M.pure (ns.map D.int)
  | .str z => M.pure (chD z)
  | _ => M.bad
def cIt (fa : Env → M D) : Env → M (List D) := fun ρ => do let d ← fa ρ; itemsD d
theorem TupAt.len {G : Gx} {W : Wd} {H : Hp} {a : Addr} {xs : List V} (_ : TupAt G W H a xs) : True := trivial
section
variable {G : Gx} {W : Wd} {H : Hp} {a : Addr} {vs : List V} {ds : List D}
/-- all readings of one list are alike (by the invariant; here: by what the rule asks) -/
theorem wk_lst (h : H a = some (.lst vs)) (nb : ¬ W.B a) (K : G.K.lookup a = none ∨ True) (r : RpA G W H vs ds) : ∀ W1 H1, Lw W H W1 H1 → H1 a = some (.lst vs) ∧ RpA G W1 H1 vs ds := fun W1 H1 l => ⟨l.kp _ _ h nb, r.mono l⟩
end
/-- the items that a walk over a list yields: those of any reading of it; the one that stands is one -/
theorem yl {K : PySem.W.Frag} {H : Hp} {a : Addr} {vs : List V} {i : Nat} {x y : V} (h : ∀ xs, SqL K H a xs → xs[i]? = some x) (s : SqL K H a vs) (e : vs[i]? = some y) : x = y := by
  have := h vs s
  rw [e] at this; cases this; rfl
theorem ylT {K : PySem.W.Frag} {H : Hp} {a : Addr} {vs : List V} {i : Nat} {x y : V} (h : ∀ xs, SqT K H a xs → xs[i]? = some x) (s : SqT K H a vs) (e : vs[i]? = some y) : x = y := by
  have := h vs s
  rw [e] at this; cases this; rfl
section
variable {X : Cx} {cl : Cls_} {E : WX} {tg e : Expr} {fa fb : Env → M D}
theorem Wk.lst {G : Gx} {W : Wd} {H : Hp} {a : Addr} {vs : List V} {ds : List D} (sq : ∀ W1 H1, Lw W H W1 H1 → SqL G.K H1 a vs) (r : RpA G W H vs ds) : Wk G (Itl G.K a) ds W H := by
  refine ⟨fun W1 H1 l w i d hi => ?_, fun W1 H1 l i hi => ⟨vs, sq W1 H1 l, by rw [r.length]; exact hi⟩⟩
  obtain ⟨v, e1, rv⟩ := r.get hi
  refine ⟨⟨vs, v, sq W1 H1 l, e1⟩, fun x H2 ⟨e2, h2⟩ => ?_⟩
  subst e2
  have e3 := yl h2 (sq W1 _ l) e1
  subst e3
  exact ⟨Same.refl _, rv.mono l⟩
theorem Wk.tup {G : Gx} {W : Wd} {H : Hp} {a : Addr} {vs : List V} {ds : List D} (sq : ∀ W1 H1, Lw W H W1 H1 → SqT G.K H1 a vs) (r : RpA G W H vs ds) : Wk G (Itt G.K a) ds W H := by
  refine ⟨fun W1 H1 l w i d hi => ?_, fun W1 H1 l i hi => ⟨vs, sq W1 H1 l, by rw [r.length]; exact hi⟩⟩
  obtain ⟨v, e1, rv⟩ := r.get hi
  refine ⟨⟨vs, v, sq W1 H1 l, e1⟩, fun x H2 ⟨e2, h2⟩ => ?_⟩
  subst e2
  have e3 := ylT h2 (sq W1 _ l) e1
  subst e3
  exact ⟨Same.refl _, rv.mono l⟩
theorem RpA.ints {G : Gx} {W : Wd} {H : Hp} : ∀ (ns : List Int), RpA G W H (ns.map V.int) (ns.map D.int)
  | [] => .nil
  | n :: ns => .cons (.int n) (RpA.ints ns)
theorem Wk.str {G : Gx} {W : Wd} {H : Hp} (z : Str) : Wk G (Its z) (chD z) W H := by
  refine ⟨fun W1 H1 l w i d hi => ?_, fun W1 H1 l i hi => ?_⟩
  · unfold chD at hi
    rw [List.getElem?_map] at hi
    obtain ⟨c, e1, e2⟩ := Option.map_eq_some_iff.mp hi
    subst e2
    have e3 : z.cps[i]? = some c := by rw [← Array.getElem?_toList]; exact e1
    refine ⟨?_, fun x H2 ⟨e4, c', e5, e6⟩ => ?_⟩
    · show i < z.cps.size
      exact (Array.getElem?_eq_some_iff.mp e3).1
    · subst e4 e6
      rw [e3] at e5; cases e5
      exact ⟨Same.refl _, .str _⟩
  · show z.cps.size ≤ i
    unfold chD at hi
    simpa using hi
theorem di_seq (ha : DE X cl E e fa) : DI X cl E tg e (cIt fa) := by
  refine pi_imp (pi_or (pi_list ha) (pi_or (pi_tup ha) (pi_str ha))) fun σ H R ⟨W0, H0, W, S, ρ, own, ev, h⟩ => ?_
  have h := Po.bind (m := fa ρ) (k := itemsD) ev.wk h
  cases q : fa ρ S with
  | bad => rw [q] at h; exact h.elim
  | exc c fs S1 => exact .inl ⟨W0, H0, W, S, ρ, own, ev, by rw [q] at h ⊢; exact h⟩
  | ok d S1 =>
    cases d with
    | lst xs =>
      refine .inl ⟨W0, H0, W, S, ρ, own, ev, ?_⟩
      rw [q] at h ⊢
      intro W1 H1 l w s v rv
      have hh := h W1 H1 l w s
      cases rv with
      | @lst a vs _ ha nb ra => exact ⟨a, rfl, ⟨vs, SqL.of ha⟩, Po.now w s hh _ (Wk.lst (G := ⟨X.K, cl⟩) (fun W2 H2 l2 => SqL.of (l2.kp _ _ ha nb)) ra)⟩
    | scr ns =>
      refine .inl ⟨W0, H0, W, S, ρ, own, ev, ?_⟩
      rw [q] at h ⊢
      intro W1 H1 l w s v rv
      have hh := h W1 H1 l w s
      cases rv with
      | @scr a _ ha => exact ⟨a, rfl, ⟨_, ha.sq⟩, Po.now w s hh _ (Wk.lst (G := ⟨X.K, cl⟩) (fun W2 H2 l2 => (ha.mono l2).sq) (RpA.ints ns))⟩
    | tup xs =>
      refine .inr (.inl ⟨W0, H0, W, S, ρ, own, ev, ?_⟩)
      rw [q] at h ⊢
      intro W1 H1 l w s v rv
      have hh := h W1 H1 l w s
      cases rv with
      | @tup a vs _ ha ra => exact ⟨a, rfl, ⟨vs, ha.sq⟩, Po.now w s hh _ (Wk.tup (G := ⟨X.K, cl⟩) (fun W2 H2 l2 => (ha.mono l2).sq) ra)⟩
    | str z =>
      refine .inr (.inr ⟨W0, H0, W, S, ρ, own, ev, ?_⟩)
      rw [q] at h ⊢
      intro W1 H1 l w s v rv
      have hh := h W1 H1 l w s
      cases rv
      exact ⟨z, rfl, Po.now w s hh _ (Wk.str z)⟩
    | _ =>
      refine .inl ⟨W0, H0, W, S, ρ, own, ev, ?_⟩
      rw [q] at h ⊢
      intro W1 H1 l w s v rv
      exact (show False from h W1 H1 l w s).elim
/-! ranges -/
def rngD (lo : Int) (n : Nat) : List D := (List.range n).map fun k => D.int (lo + (k : Nat))
theorem Wk.rng {G : Gx} {W : Wd} {H : Hp} (lo : Int) (n : Nat) : Wk G (Itr lo n) (rngD lo n) W H := by
  refine ⟨fun W1 H1 l w i d hi => ?_, fun W1 H1 l i hi => ?_⟩
  · unfold rngD at hi
    rw [List.getElem?_map] at hi
    obtain ⟨c, e1, e2⟩ := Option.map_eq_some_iff.mp hi
    subst e2
    obtain ⟨h1, h2⟩ := List.getElem?_eq_some_iff.mp e1
    rw [List.getElem_range] at h2
    subst h2
    refine ⟨?_, fun x H2 ⟨e4, e5⟩ => ?_⟩
    · show i < n
      simpa using h1
    · subst e4 e5
      exact ⟨Same.refl _, .int _⟩
  · show n ≤ i
    unfold rngD at hi
    simpa using hi
def rng1 : D → M (List D)
  | .int j => if -(2 ^ 62) ≤ j ∧ j < 2 ^ 62 then M.pure (rngD 0 j.toNat) else M.bad
  | _ => M.bad
def rng2 : D → D → M (List D)
  | .int i, .int j => if -(2 ^ 62) ≤ i ∧ i < 2 ^ 62 ∧ -(2 ^ 62) ≤ j ∧ j < 2 ^ 62 then M.pure (rngD i (j - i).toNat) else M.bad
  | _, _ => M.bad
def cRng1 (fa : Env → M D) : Env → M (List D) := fun ρ => do let d ← fa ρ; rng1 d
def cRng2 (fa fb : Env → M D) : Env → M (List D) := fun ρ => do let x ← fa ρ; let y ← fb ρ; rng2 x y
theorem tI_bind {G : Gx} {E : WX} {fa : Env → M D} {k : Env → D → M (List D)} {σ : L2.St} {H : Hp} {Q : It → Hp → Prop} {R : V → Hp → Prop} (h : tI G E (fun ρ => fa ρ >>= k ρ) σ H Q)
    (hk : ∀ W0 H0 W1 H1 S1 ρ own v d, Ev G W0 H0 W1 H1 S1 σ ρ own → Rp G W1 H1 v d → Po G E σ W1 H1 (k ρ d S1) (fun ds _ W' H' => ∀ J, Wk G J ds W' H' → Q J H') → R v H1) : tE G E fa σ H R := by
  obtain ⟨W0, H0, W, S, ρ, own, ev, h⟩ := h
  exact ⟨W0, H0, W, S, ρ, own, ev, (Po.bind ev.wk h).imp fun d S1 W1 H1 l w s hh v rv => hk W0 H0 W1 H1 S1 ρ own v d (ev.mono l w s) rv hh⟩
theorem di_rng1 {p pos : Pos} (hm : X.mg "range" = none) (ha : DE X cl E e fa) (hg : Gl X "range" := by rfl) (hs : starEach [e] X.env = [(false, eval e X.env)] := by rfl) : DI X cl E tg (.Call (.Name "range" p) [e] [] pos) (cRng1 fa) := by
  refine pi_imp (pi_range1 hg hm (pa_cons ha pa_nil hs) hs) fun σ H R h => ?_
  refine tI_bind h fun W0 H0 W1 H1 S1 ρ own v d ev rv hh => ?_
  cases d with
  | int j =>
    cases rv
    obtain ⟨c, hh⟩ := po_if hh
    exact ⟨j, rfl, c.1, c.2, Po.now ev.wk ev.st hh _ (Wk.rng 0 _)⟩
  | _ => exact (po_bad hh).elim
theorem di_rng2 {e2 : Expr} {p pos : Pos} (hm : X.mg "range" = none) (ha : DE X cl E e fa) (hb : DE X cl E e2 fb) (hg : Gl X "range" := by rfl) (hs : starEach [e, e2] X.env = [(false, eval e X.env), (false, eval e2 X.env)] := by rfl) (hs2 : starEach [e2] X.env = [(false, eval e2 X.env)] := by rfl) :
    DI X cl E tg (.Call (.Name "range" p) [e, e2] [] pos) (cRng2 fa fb) := by
  refine pi_imp (pi_range2 hg hm (pa_cons ha (pa_cons hb pa_nil hs2) (by rw [hs, hs2])) hs hs2) fun σ H R h => ?_
  refine tI_bind h fun W0 H0 W1 H1 S1 ρ own v d ev rv hh => ?_
  refine ⟨W0, H0, W1, S1, ρ, own, ev, (Po.bind ev.wk hh).imp fun d2 S2 W2 H2 l w s h2 v2 rv2 => ?_⟩
  cases d with
  | int i =>
    cases d2 with
    | int j =>
      cases rv; cases rv2
      obtain ⟨c, h2⟩ := po_if h2
      exact ⟨i, j, rfl, c, Po.now w s h2 _ (Wk.rng i _)⟩
    | _ => exact (po_bad h2).elim
  | _ => exact (po_bad h2).elim
/-! zip, enumerate -/
def zipD : List D → List D → List D
  | x :: xs, y :: ys => .tup [x, y] :: zipD xs ys
  | _, _ => []
def enumD (k : Nat) : List D → List D
  | [] => []
  | x :: xs => .tup [.int (k : Nat), x] :: enumD (k + 1) xs
theorem zipD_get : ∀ {xs ys : List D} {i : Nat} {d : D}, (zipD xs ys)[i]? = some d → ∃ x y, xs[i]? = some x ∧ ys[i]? = some y ∧ d = .tup [x, y]
  | [], _, _, _, h => by simp [zipD] at h
  | _ :: _, [], _, _, h => by simp [zipD] at h
  | x :: xs, y :: ys, 0, d, h => by simp [zipD] at h; exact ⟨x, y, rfl, rfl, h.symm⟩
  | x :: xs, y :: ys, i + 1, d, h => by
    obtain ⟨a, b, h1, h2, h3⟩ := zipD_get (xs := xs) (ys := ys) (i := i) (d := d) (by simpa [zipD] using h)
    exact ⟨a, b, by simpa using h1, by simpa using h2, h3⟩
theorem zipD_len : ∀ (xs ys : List D), (zipD xs ys).length = min xs.length ys.length
  | [], ys => by simp [zipD]
  | _ :: _, [] => by simp [zipD]
  | x :: xs, y :: ys => by simp only [zipD, List.length_cons, zipD_len xs ys]; omega
theorem enumD_get : ∀ {xs : List D} {k i : Nat} {d : D}, (enumD k xs)[i]? = some d → ∃ x, xs[i]? = some x ∧ d = .tup [.int ((k + i : Nat) : Int), x]
  | [], _, _, _, h => by simp [enumD] at h
  | x :: xs, k, 0, d, h => by simp [enumD] at h; exact ⟨x, rfl, h.symm⟩
  | x :: xs, k, i + 1, d, h => by
    obtain ⟨a, h1, h2⟩ := enumD_get (xs := xs) (k := k + 1) (i := i) (d := d) (by simpa [enumD] using h)
    exact ⟨a, by simpa using h1, by rw [h2, show k + 1 + i = k + (i + 1) by omega]⟩
theorem enumD_len : ∀ (xs : List D) (k : Nat), (enumD k xs).length = xs.length
  | [], _ => rfl
  | _ :: xs, k => by simp only [enumD, List.length_cons, enumD_len xs (k + 1)]
theorem new_pair {G : Gx} {W : Wd} {H : Hp} {T : Addr} {x y : V} {a b : D} (w : WOk W H) (hT : H T = none) (ra : Rp G W H x a) (rb : Rp G W H y b) : Same H (upd H T (.tup [x, y])) ∧ Rp G W (upd H T (.tup [x, y])) (.ref T) (.tup [a, b]) :=
  ⟨Same.new hT, Rp.newTup w hT (.cons ra (.cons rb .nil))⟩
theorem Wk.zipL {G : Gx} {W : Wd} {H : Hp} {a b : Addr} {vs us : List V} {ds es : List D} (sq : ∀ W1 H1, Lw W H W1 H1 → SqL G.K H1 a vs) (sr : ∀ W1 H1, Lw W H W1 H1 → SqL G.K H1 b us) (r : RpA G W H vs ds) (q : RpA G W H us es) : Wk G (Itz G.K a b) (zipD ds es) W H := by
  refine ⟨fun W1 H1 l w i d hi => ?_, fun W1 H1 l i hi => ?_⟩
  · obtain ⟨x, y, h1, h2, e⟩ := zipD_get hi
    subst e
    obtain ⟨v, e1, rv⟩ := r.get h1
    obtain ⟨u, e2, ru⟩ := q.get h2
    refine ⟨⟨vs, us, v, u, sq W1 H1 l, sr W1 H1 l, e1, e2⟩, fun z H2 ⟨T, v', u', ez, hT, eH, hv, hu⟩ => ?_⟩
    subst ez eH
    have e3 := yl hv (sq W1 _ l) e1
    have e4 := yl hu (sr W1 _ l) e2
    subst e3 e4
    exact new_pair w hT (rv.mono l) (ru.mono l)
  · rw [zipD_len] at hi
    refine ⟨vs, us, sq W1 H1 l, sr W1 H1 l, ?_⟩
    rw [r.length, q.length]
    omega
theorem Wk.zipT {G : Gx} {W : Wd} {H : Hp} {a b : Addr} {vs us : List V} {ds es : List D} (sq : ∀ W1 H1, Lw W H W1 H1 → SqT G.K H1 a vs) (sr : ∀ W1 H1, Lw W H W1 H1 → SqT G.K H1 b us) (r : RpA G W H vs ds) (q : RpA G W H us es) : Wk G (RZ.ItzT G.K a b) (zipD ds es) W H := by
  refine ⟨fun W1 H1 l w i d hi => ?_, fun W1 H1 l i hi => ?_⟩
  · obtain ⟨x, y, h1, h2, e⟩ := zipD_get hi
    subst e
    obtain ⟨v, e1, rv⟩ := r.get h1
    obtain ⟨u, e2, ru⟩ := q.get h2
    refine ⟨⟨vs, us, v, u, sq W1 H1 l, sr W1 H1 l, e1, e2⟩, fun z H2 ⟨T, v', u', ez, hT, eH, hv, hu⟩ => ?_⟩
    subst ez eH
    have e3 := ylT hv (sq W1 _ l) e1
    have e4 := ylT hu (sr W1 _ l) e2
    subst e3 e4
    exact new_pair w hT (rv.mono l) (ru.mono l)
  · rw [zipD_len] at hi
    refine ⟨vs, us, sq W1 H1 l, sr W1 H1 l, ?_⟩
    rw [r.length, q.length]
    omega
theorem Wk.enumL {G : Gx} {W : Wd} {H : Hp} {a : Addr} {vs : List V} {ds : List D} (sq : ∀ W1 H1, Lw W H W1 H1 → SqL G.K H1 a vs) (r : RpA G W H vs ds) : Wk G (Ite G.K a) (enumD 0 ds) W H := by
  refine ⟨fun W1 H1 l w i d hi => ?_, fun W1 H1 l i hi => ⟨vs, sq W1 H1 l, by rw [enumD_len] at hi; rw [r.length]; exact hi⟩⟩
  obtain ⟨x, h1, e⟩ := enumD_get hi
  subst e
  obtain ⟨v, e1, rv⟩ := r.get h1
  refine ⟨⟨vs, v, sq W1 H1 l, e1⟩, fun z H2 ⟨T, v', ez, hT, eH, hv⟩ => ?_⟩
  subst ez eH
  have e3 := yl hv (sq W1 _ l) e1
  subst e3
  rw [Nat.zero_add]
  exact new_pair w hT (.int _) (rv.mono l)
def gZip : D → D → M (List D)
  | .lst xs, .lst ys => M.pure (zipD xs ys)
  | .tup xs, .tup ys => M.pure (zipD xs ys)
  | _, _ => M.bad
def cZip (fa fb : Env → M D) : Env → M (List D) := fun ρ => do let x ← fa ρ; let y ← fb ρ; gZip x y
theorem di_zip {e2 : Expr} {elts : List Expr} {kk : Nat} {p pos tpos : Pos} (hm : X.mg "zip" = none) (ha : DE X cl E e fa) (hb : DE X cl E e2 fb) (hg : Gl X "zip" := by rfl) (hs : starEach [e, e2] X.env = (false, eval e X.env) :: starEach [e2] X.env := by rfl) (hs2 : starEach [e2] X.env = (false, eval e2 X.env) :: starEach [] X.env := by rfl) (hpl : (backTo pos (starEach [e2] X.env)).any (·.1) = false := by rfl) :
    DI X cl E (.Tuple elts kk tpos) (.Call (.Name "zip" p) [e, e2] [] pos) (cZip fa fb) := by
  refine pi_imp (RZ.pi_zipA hg hm (pa_cons ha (pa_cons hb pa_nil hs2) hs) hs hpl) fun σ H R h => ?_
  refine tI_bind h fun W0 H0 W1 H1 S1 ρ own v d ev rv hh => ?_
  refine ⟨W0, H0, W1, S1, ρ, own, ev, (Po.bind ev.wk hh).imp fun d2 S2 W2 H2 l w s h2 v2 rv2 => ?_⟩
  have rv1 := rv.mono (l.lw ev.wk)
  cases d with
  | lst xs =>
    cases d2 with
    | lst ys =>
      cases rv1 with
      | @lst a vs _ h1 nb r1 =>
        cases rv2 with
        | @lst b us _ h3 nb2 r2 =>
          exact ⟨a, b, vs, us, rfl, .inl ⟨SqL.of h1, SqL.of h3, Po.now w s h2 _ (Wk.zipL (G := ⟨X.K, cl⟩) (fun _ _ k => SqL.of (k.kp _ _ h1 nb)) (fun _ _ k => SqL.of (k.kp _ _ h3 nb2)) r1 r2)⟩⟩
    | _ => exact (po_bad h2).elim
  | tup xs =>
    cases d2 with
    | tup ys =>
      cases rv1 with
      | @tup a vs _ h1 r1 =>
        cases rv2 with
        | @tup b us _ h3 r2 =>
          exact ⟨a, b, vs, us, rfl, .inr ⟨h1.sq, h3.sq, Po.now w s h2 _ (Wk.zipT (G := ⟨X.K, cl⟩) (fun _ _ k => (h1.mono k).sq) (fun _ _ k => (h3.mono k).sq) r1 r2)⟩⟩
    | _ => exact (po_bad h2).elim
  | _ => exact (po_bad h2).elim
def gEnum : D → M (List D)
  | .lst xs => M.pure (enumD 0 xs)
  | _ => M.bad
def cEnum (fa : Env → M D) : Env → M (List D) := fun ρ => do let x ← fa ρ; gEnum x
theorem di_enum {elts : List Expr} {kk : Nat} {p pos tpos : Pos} (hm : X.mg "enumerate" = none) (ha : DE X cl E e fa) (hg : Gl X "enumerate" := by rfl) (hs : starEach [e] X.env = [(false, eval e X.env)] := by rfl) :
    DI X cl E (.Tuple elts kk tpos) (.Call (.Name "enumerate" p) [e] [] pos) (cEnum fa) := by
  refine pi_imp (pi_enum hg hm (pa_cons ha pa_nil hs) hs) fun σ H R h => ?_
  refine tI_bind h fun W0 H0 W1 H1 S1 ρ own v d ev rv hh => ?_
  cases d with
  | lst xs =>
    cases rv with
    | @lst a vs _ h1 nb r1 => exact ⟨a, vs, rfl, SqL.of h1, Po.now ev.wk ev.st hh _ (Wk.enumL (G := ⟨X.K, cl⟩) (fun _ _ k => SqL.of (k.kp _ _ h1 nb)) r1)⟩
  | _ => exact (po_bad hh).elim
end

/-! ### targets -/
abbrev Bd := D → Env → Option Env
def bName (i : Nat) : Bd := fun d ρ => some (ρ.set i (.val d))
def bAll : List Bd → List D → Env → Option Env
  | [], [], ρ => some ρ
  | b :: bs, x :: xs, ρ => match b x ρ with
    | some ρ' => bAll bs xs ρ'
    | none => none
  | _, _, _ => none
def bTup (bs : List Bd) : Bd := fun d ρ => match d with
  | .tup xs => bAll bs xs ρ
  | .lst xs => bAll bs xs ρ
  | _ => none
theorem Ev.set {G : Gx} {W0 W : Wd} {H0 H : Hp} {S : Store} {σ : L2.St} {ρ : Env} {own : Nat → Option Addr} {i : Nat} {v : V} {d : D} (e : Ev G W0 H0 W H S σ ρ own) (r : Rp G W H v d) :
    Ev G W0 H0 W H S (σ.set i (some v)) (ρ.set i (.val d)) (fun j => if j = i then none else own j) := by
  refine ⟨e.w0, e.wk, e.le, e.st, by simp [e.len], fun j d' h => ?_, fun j ds h => ?_, fun j a h => ?_, fun j k a h1 h2 => ?_, fun j a h => have q := set_adr (by intro _ z; cases z) h; by rw [List.getElem?_set_ne (Ne.symm q.1)]; exact e.sa j a q.2⟩
  · by_cases hj : j = i
    · subst hj
      have hl : j < ρ.length := by
        have := (List.getElem?_eq_some_iff.mp h).1
        simpa using this
      rw [List.getElem?_set_self hl] at h
      cases h
      exact ⟨v, List.getElem?_set_self (by rw [e.len]; exact hl), r⟩
    · rw [List.getElem?_set_ne (Ne.symm hj)] at h
      obtain ⟨u, h1, h2⟩ := e.sl j d' h
      exact ⟨u, by rw [List.getElem?_set_ne (Ne.symm hj)]; exact h1, h2⟩
  · by_cases hj : j = i
    · subst hj
      have hl : j < ρ.length := by
        have := (List.getElem?_eq_some_iff.mp h).1
        simpa using this
      rw [List.getElem?_set_self hl] at h
      cases h
    · rw [List.getElem?_set_ne (Ne.symm hj)] at h
      obtain ⟨a, vs, h1, h2, h3, h4⟩ := e.so j ds h
      exact ⟨a, vs, by show (if j = i then none else own j) = some a; rw [if_neg hj]; exact h1, by rw [List.getElem?_set_ne (Ne.symm hj)]; exact h2, h3, h4⟩
  · have h : (if j = i then none else own j) = some a := h
    by_cases hj : j = i
    · rw [if_pos hj] at h; cases h
    · rw [if_neg hj] at h; exact e.oB j a h
  · have h1 : (if j = i then none else own j) = some a := h1
    have h2 : (if k = i then none else own k) = some a := h2
    by_cases hj : j = i
    · rw [if_pos hj] at h1; cases h1
    · by_cases hk : k = i
      · rw [if_pos hk] at h2; cases h2
      · rw [if_neg hj] at h1; rw [if_neg hk] at h2; exact e.oi j k a h1 h2
/-- the slots but those of ws are as they were -/
def Out (ws : List Nat) (σ σ' : L2.St) : Prop := σ'.length = σ.length ∧ ∀ i, i ∉ ws → σ'[i]? = σ[i]?
theorem Out.refl (ws : List Nat) (σ : L2.St) : Out ws σ σ := ⟨rfl, fun _ _ => rfl⟩
theorem Out.trans {ws us : List Nat} {σ σ1 σ2 : L2.St} (a : Out ws σ σ1) (b : Out us σ1 σ2) : Out (ws ++ us) σ σ2 :=
  ⟨b.1.trans a.1, fun i h => by rw [List.mem_append, not_or] at h; rw [b.2 i h.2, a.2 i h.1]⟩
theorem Out.one {σ : L2.St} {i : Nat} {v : Option V} : Out [i] σ (σ.set i v) := ⟨List.length_set, fun j h => List.getElem?_set_ne (fun e => h (by rw [e]; exact List.mem_singleton_self _))⟩
def tG (G : Gx) (b : Bd) (ws : List Nat) : TG := fun v σ H Q => ∃ W0 H0 W S ρ own d ρ', Ev G W0 H0 W H S σ ρ own ∧ Rp G W H v d ∧ b d ρ = some ρ' ∧ ∀ σ' own', Out ws σ σ' → Ev G W0 H0 W H S σ' ρ' own' → Q σ' H
def tGs (G : Gx) (bs : List Bd) (ws : List Nat) : TGs := fun vs σ H Q => ∃ W0 H0 W S ρ own ds ρ', Ev G W0 H0 W H S σ ρ own ∧ RpA G W H vs ds ∧ bAll bs ds ρ = some ρ' ∧ ∀ σ' own', Out ws σ σ' → Ev G W0 H0 W H S σ' ρ' own' → Q σ' H
abbrev DG (X : Cx) (cl : Cls_) (e : Expr) (b : Bd) (ws : List Nat) : Prop := PG X e (tG ⟨X.K, cl⟩ b ws)
abbrev DGs (X : Cx) (cl : Cls_) (es : List Expr) (bs : List Bd) (ws : List Nat) : Prop := PGs X es (tGs ⟨X.K, cl⟩ bs ws)
theorem pg_imp {X : Cx} {e : Expr} {t t' : TG} (h : PG X e t) (i : ∀ v σ H Q, t' v σ H Q → t v σ H Q) : PG X e t' := ⟨fun pins s σ H v u Q I r q => h.run pins s σ H v u Q I r (i v σ H Q q)⟩
theorem pgs_imp {X : Cx} {e : List Expr} {t t' : TGs} (h : PGs X e t) (i : ∀ v σ H Q, t' v σ H Q → t v σ H Q) : PGs X e t' := ⟨fun pins s σ H v u Q I r q => h.run pins s σ H v u Q I r (i v σ H Q q)⟩
section
variable {X : Cx} {cl : Cls_} {pos : Pos}
theorem dg_name {i : Nat} {x : Str} (hN : X.N.Nodup) (hi : X.N[i]? = some x := by rfl) (hx : Loc X.env.scope x := by first | exact Or.inl rfl | exact Or.inr rfl) (hf : X.fn x = true ∨ X.env.scope.names.lookup x = some .local := by first | exact .inl rfl | exact .inr rfl) : DG X cl (.Name x pos) (bName i) [i] :=
  pg_imp (pg_name hN hi hx hf) fun v σ H Q ⟨W0, H0, W, S, ρ, own, d, ρ', ev, r, e, h⟩ => by cases e; exact h _ _ Out.one (ev.set r)
theorem dgs_nil : DGs X cl [] [] [] := pgs_imp pgs_nil fun vs σ H Q ⟨W0, H0, W, S, ρ, own, ds, ρ', ev, r, e, h⟩ => by
  cases r with
  | nil => cases e; exact ⟨rfl, h _ _ (Out.refl _ _) ev⟩
  | cons _ _ => cases e
theorem dgs_cons {e : Expr} {es : List Expr} {b : Bd} {bs : List Bd} {ws us : List Nat} (h1 : DG X cl e b ws) (h2 : DGs X cl es bs us) (hs : (assignEach (e :: es) X.env).map (·.2) = assign e X.env :: (assignEach es X.env).map (·.2) := by rfl) : DGs X cl (e :: es) (b :: bs) (ws ++ us) := by
  refine pgs_imp (pgs_cons h1 h2 hs) fun vs σ H Q ⟨W0, H0, W, S, ρ, own, ds, ρ', ev, r, e, h⟩ => ?_
  cases r with
  | nil => cases e
  | @cons v vs d ds rv rvs =>
    refine ⟨v, vs, rfl, ?_⟩
    unfold bAll at e
    cases q : b d ρ with
    | none => rw [q] at e; cases e
    | some ρ1 =>
      rw [q] at e
      exact ⟨W0, H0, W, S, ρ, own, d, ρ1, ev, rv, q, fun σ1 own1 o1 ev1 => ⟨W0, H0, W, S, ρ1, own1, ds, ρ', ev1, rvs, e, fun σ2 own2 o2 ev2 => h σ2 own2 (o1.trans o2) ev2⟩⟩
theorem bAll_len : ∀ {bs : List Bd} {ds : List D} {ρ ρ' : Env}, bAll bs ds ρ = some ρ' → ds.length = bs.length
  | [], [], _, _, _ => rfl
  | b :: bs, x :: xs, ρ, ρ', h => by
    unfold bAll at h
    cases q : b x ρ with
    | none => rw [q] at h; cases h
    | some ρ1 =>
      rw [q] at h
      rw [List.length_cons, List.length_cons, bAll_len h]
  | [], _ :: _, _, _, h => by simp [bAll] at h
  | _ :: _, [], _, _, h => by simp [bAll] at h
theorem pg_or {e : Expr} {t u : TG} (h1 : PG X e t) (h2 : PG X e u) : PG X e (fun v σ H Q => t v σ H Q ∨ u v σ H Q) := ⟨fun pins s σ H v w Q I r q => q.elim (h1.run pins s σ H v w Q I r) (h2.run pins s σ H v w Q I r)⟩
theorem dg_tup {es : List Expr} {k : Nat} {bs : List Bd} {ws : List Nat} (hc : X.calm = true) (h : DGs X cl es bs ws) (hn : (assignEach es X.env).length = bs.length := by rfl) (hst : (assignEach es X.env).findIdx? (·.1) = none := by rfl) : DG X cl (.Tuple es k pos) (bTup bs) ws := by
  refine pg_imp (pg_or (pg_tup (n := bs.length) hc h hn hst) (pg_lst (n := bs.length) hc h hn hst)) fun v σ H Q ⟨W0, H0, W, S, ρ, own, d, ρ', ev, r, e, h⟩ => ?_
  cases d with
  | tup xs =>
    cases r with
    | @tup a vs _ ha ra => exact .inl ⟨a, vs, rfl, ha.sq, by rw [ra.length]; exact bAll_len e, W0, H0, W, S, ρ, own, xs, ρ', ev, ra, e, h⟩
  | lst xs =>
    cases r with
    | @lst a vs _ ha _ ra => exact .inr ⟨a, vs, rfl, .inl (.inl ha), by rw [ra.length]; exact bAll_len e, W0, H0, W, S, ρ, own, xs, ρ', ev, ra, e, h⟩
  | _ => cases e
end
end DN
/-! DN5: comprehensions, statements, defs. -/
namespace DN
open PySem PySem.Spec PyProof.Rows L2

/-! ### comprehensions -/
abbrev E0_ : WX := fun _ _ _ _ => False
def noX {α : Type} (m : M α) : M α := fun S => match m S with
  | .exc _ _ _ => .bad
  | r => r
theorem po_noX {G : Gx} {E : WX} {σ σ' : L2.St} {W : Wd} {H : Hp} {α : Type} {m : M α} {S : Store} {R : α → Store → Wd → Hp → Prop} (h : Po G E σ W H (noX m S) R) : Po G E0_ σ' W H (m S) R := by
  unfold noX at h
  cases q : m S with
  | ok a S' => rw [q] at h; exact h
  | exc c fs S' => rw [q] at h; exact h.elim
  | bad => rw [q] at h; exact h
def wipeE (ρ : Env) : List Nat → Env
  | [] => ρ
  | i :: is => (wipeE ρ is).set i .un
def compL (b : Bd) (t : Env → M Bool) (f : Env → M D) (ρ : Env) : List D → M (List D)
  | [] => M.pure []
  | d :: ds => match b d ρ with
    | none => M.bad
    | some ρ' => do
      let k ← t ρ'
      if k then (do
        let y ← f ρ'
        let ys ← compL b t f ρ ds
        M.pure (y :: ys))
      else compL b t f ρ ds
def cComp (fi : Env → M (List D)) (b : Bd) (t : Env → M Bool) (f : Env → M D) (vs : List Nat) : Env → M D := fun ρ => do
  let ds ← fi ρ
  if ds.length ≤ 16777216 then (do
    let ys ← noX (compL b t f (wipeE ρ vs) ds)
    M.pure (.lst ys))
  else M.bad
def cYes : Env → M Bool := fun _ => M.pure true
theorem Ev.unset {G : Gx} {W0 W : Wd} {H0 H : Hp} {S : Store} {σ : L2.St} {ρ : Env} {own : Nat → Option Addr} {i : Nat} (e : Ev G W0 H0 W H S σ ρ own) :
    Ev G W0 H0 W H S (σ.set i none) (ρ.set i .un) (fun j => if j = i then none else own j) := by
  have at_ : ∀ {j : Nat} {x : Sl}, (ρ.set i .un)[j]? = some x → x ≠ .un → j ≠ i ∧ ρ[j]? = some x := fun {j x} h hx => by
    by_cases hj : j = i
    · subst hj
      have hl : j < ρ.length := by
        have := (List.getElem?_eq_some_iff.mp h).1
        simpa using this
      rw [List.getElem?_set_self hl] at h
      cases h; exact absurd rfl hx
    · rw [List.getElem?_set_ne (Ne.symm hj)] at h
      exact ⟨hj, h⟩
  refine ⟨e.w0, e.wk, e.le, e.st, by simp [e.len], fun j d h => ?_, fun j ds h => ?_, fun j a h => ?_, fun j k a h1 h2 => ?_, fun j a h => have q := set_adr (by intro _ z; cases z) h; by rw [List.getElem?_set_ne (Ne.symm q.1)]; exact e.sa j a q.2⟩
  · obtain ⟨hj, h⟩ := at_ h (by intro q; cases q)
    obtain ⟨v, h1, h2⟩ := e.sl j d h
    exact ⟨v, by rw [List.getElem?_set_ne (Ne.symm hj)]; exact h1, h2⟩
  · obtain ⟨hj, h⟩ := at_ h (by intro q; cases q)
    obtain ⟨a, vs, h1, h2, h3, h4⟩ := e.so j ds h
    exact ⟨a, vs, by show (if j = i then none else own j) = some a; rw [if_neg hj]; exact h1, by rw [List.getElem?_set_ne (Ne.symm hj)]; exact h2, h3, h4⟩
  · have h : (if j = i then none else own j) = some a := h
    by_cases hj : j = i
    · rw [if_pos hj] at h; cases h
    · rw [if_neg hj] at h; exact e.oB j a h
  · have h1 : (if j = i then none else own j) = some a := h1
    have h2 : (if k = i then none else own k) = some a := h2
    by_cases hj : j = i
    · rw [if_pos hj] at h1; cases h1
    · by_cases hk : k = i
      · rw [if_pos hk] at h2; cases h2
      · rw [if_neg hj] at h1; rw [if_neg hk] at h2; exact e.oi j k a h1 h2
theorem Ev.wiped {G : Gx} {W0 W : Wd} {H0 H : Hp} {S : Store} {σ : L2.St} {ρ : Env} {own : Nat → Option Addr} (e : Ev G W0 H0 W H S σ ρ own) : ∀ vs : List Nat, ∃ own', Ev G W0 H0 W H S (wipe σ vs) (wipeE ρ vs) own'
  | [] => ⟨own, e⟩
  | i :: is => let ⟨o, e'⟩ := e.wiped is; ⟨_, e'.unset⟩
theorem wipe_same {σ σ' : L2.St} {ws vs : List Nat} (o : Out ws σ σ') (h : ∀ i ∈ ws, i ∈ vs) : wipe σ' vs = wipe σ vs := by
  refine List.ext_getElem? fun i => ?_
  have key : ∀ (τ : L2.St) (us : List Nat), i ∈ us → (wipe τ us)[i]? = if i < τ.length then some none else none := fun τ us => by
    induction us with
    | nil => intro h; cases h
    | cons u us ih =>
      intro h
      show ((wipe τ us).set u none)[i]? = _
      by_cases e : u = i
      · subst e
        by_cases hl : u < τ.length
        · rw [if_pos hl, List.getElem?_set_self (by rw [wipe_length]; exact hl)]
        · rw [if_neg hl]
          exact List.getElem?_eq_none (by rw [List.length_set, wipe_length]; omega)
      · rw [List.getElem?_set_ne e]
        rcases List.mem_cons.mp h with z | z
        · exact absurd z.symm e
        · exact ih z
  by_cases hi : i ∈ vs
  · rw [key σ' vs hi, key σ vs hi, o.1]
  · rw [wipe_out hi, wipe_out hi]
    exact o.2 i fun z => hi (h i z)
/-- an object of one's own is changed -/
theorem Ev.poke {G : Gx} {W0 W : Wd} {H0 H : Hp} {S : Store} {σ : L2.St} {ρ : Env} {own : Nat → Option Addr} {p : Addr} {o : HO} (e : Ev G W0 H0 W H S σ ρ own) {xs : List V} (hH : H p = some (.lst xs)) (hB : W.B p) (h0 : Nw H0 p) (hn : ∀ n, W.phi n ≠ some p) (ho : ∀ i, own i ≠ some p) (t : nt o := by intro _ z; cases z) :
    Ev G W0 H0 W (upd H p o) S σ ρ own := by
  have lw : Lw W H W (upd H p o) := ⟨fun _ _ h => h, fun _ h => .inl h, fun b u h _ nb => by rw [upd_ne (fun z => nb (by rw [z]; exact hB))]; exact h⟩
  refine ⟨e.w0, ⟨fun a h => ?_, e.wk.rg, e.wk.ij⟩, ⟨e.le.ph, e.le.ps, e.le.Bm, e.le.Bn, fun b u h tu => ?_⟩, ⟨fun n c h => ?_, e.st.top, Tabs.put e.st.tb hH (by intro _ z; cases z) code_lst⟩, e.len, fun i d h => ?_, fun i ds h => ?_, e.oB, e.oi, e.sa⟩
  · by_cases z : a = p
    · exact ⟨o, by rw [z, upd_same], t⟩
    · obtain ⟨u, q, tu⟩ := e.wk.tr a h
      exact ⟨u, by rw [upd_ne z]; exact q, tu⟩
  · rcases e.le.kp b u h tu with z | z
    · exact .inl z
    · refine .inr ?_
      rw [upd_ne (fun q => by rw [q] at h; exact h0.no h tu)]
      exact z
  · obtain ⟨a, h1, h2⟩ := e.st.at_ n c h
    exact ⟨a, h1, h2.same lw fun u q => by rw [upd_ne (fun z => hn n (by rw [← z]; exact h1))]; exact q⟩
  · obtain ⟨v, h1, h2⟩ := e.sl i d h
    exact ⟨v, h1, h2.mono lw⟩
  · obtain ⟨a, vs, h1, h2, h3, h4⟩ := e.so i ds h
    exact ⟨a, vs, h1, h2, by rw [upd_ne (fun z => ho i (by rw [← z]; exact h1))]; exact h3, h4.mono lw⟩
/-- a new object is busy from now on -/
def Wd.add (W : Wd) (p : Addr) : Wd := ⟨W.phi, fun a => W.B a ∨ a = p⟩
def Wd.del (W : Wd) (p : Addr) : Wd := ⟨W.phi, fun a => W.B a ∧ a ≠ p⟩
theorem le_add {W : Wd} {H : Hp} {p : Addr} {o : HO} (hp : H p = none) : Le W H (W.add p) (upd H p o) :=
  ⟨fun _ _ h => h, fun _ _ h => .inl h, fun _ h => .inl h, fun a h => h.elim .inl fun z => .inr (by rw [z]; exact .of hp), fun b u h _ => .inr (Same.new hp b u h)⟩
theorem ok_add {W : Wd} {H : Hp} {p : Addr} {o : HO} (w : WOk W H) (hp : H p = none) (t : nt o := by intro _ z; cases z) : WOk (W.add p) (upd H p o) := by
  refine ⟨fun a h => ?_, fun n a h => .inl (w.rg n a h), w.ij⟩
  rcases h with h | h
  · obtain ⟨u, q, tu⟩ := w.tr a h
    exact ⟨u, Same.new hp a u q, tu⟩
  · exact ⟨o, by rw [h, upd_same], t⟩
theorem st_add {G : Gx} {W : Wd} {H : Hp} {S : Store} {p : Addr} {o : HO} (w : WOk W H) (s : StOk G W H S) (hp : H p = none) : StOk G (W.add p) (upd H p o) S :=
  ⟨fun n c h => let ⟨a, h1, h2⟩ := s.at_ n c h; ⟨a, h1, h2.same ((le_add hp).lw w) fun u q => Same.new hp a u q⟩, s.top, s.tb.ext (Same.new hp)⟩
section
variable {X : Cx} {cl : Cls_} {E : WX}
theorem compL_ok {b : Bd} {t : Env → M Bool} {f : Env → M D} {ρ : Env} {d : D} {ds : List D} {S S2 : Store} {ys : List D} (h : compL b t f ρ (d :: ds) S = .ok ys S2) :
    ∃ ρ' k Sk, b d ρ = some ρ' ∧ t ρ' S = .ok k Sk ∧ (k = true → ∃ y Sy zs, f ρ' Sk = .ok y Sy ∧ compL b t f ρ ds Sy = .ok zs S2 ∧ ys = y :: zs) ∧ (k = false → compL b t f ρ ds Sk = .ok ys S2) := by
  unfold compL at h
  cases q : b d ρ with
  | none => rw [q] at h; cases h
  | some ρ' =>
    rw [q] at h
    dsimp only at h
    rw [bind_run] at h
    cases q2 : t ρ' S with
    | bad => rw [q2] at h; cases h
    | exc c fs S' => rw [q2] at h; cases h
    | ok k Sk =>
      rw [q2] at h
      dsimp only at h
      refine ⟨ρ', k, Sk, rfl, q2, fun e => ?_, fun e => ?_⟩
      · subst e
        rw [if_pos rfl, bind_run] at h
        cases q3 : f ρ' Sk with
        | bad => rw [q3] at h; cases h
        | exc c fs S' => rw [q3] at h; cases h
        | ok y Sy =>
          rw [q3] at h
          dsimp only at h
          rw [bind_run] at h
          cases q4 : compL b t f ρ ds Sy with
          | bad => rw [q4] at h; cases h
          | exc c fs S' => rw [q4] at h; cases h
          | ok zs Sz =>
            rw [q4] at h
            have h : Res.ok (y :: zs) Sz = Res.ok ys S2 := h
            injection h with h1 h2
            subst h1 h2
            exact ⟨y, Sy, zs, rfl, q4, rfl⟩
      · subst e
        rw [if_neg Bool.false_ne_true] at h
        exact h
theorem tLc_of {G : Gx} {fi : Env → M (List D)} {b : Bd} {t : Env → M Bool} {f : Env → M D} {vs ws : List Nat} {σ : L2.St} {H : Hp} {Q : VK} (hw : ∀ i ∈ ws, i ∈ vs) (h : tE G E (cComp fi b t f vs) σ H Q) :
    tLc (tI G E fi) (tG G b ws) (tB_ G E0_ t) (tE G E0_ f) vs σ H Q := by
  obtain ⟨W0, H0, W, S, ρ, own, ev, h⟩ := h
  refine ⟨W0, H0, W, S, ρ, own, ev, (Po.bind ev.wk h).imp fun ds S1 W1 H1 l1 w1 s1 h1 J hJ p hp => ?_⟩
  obtain ⟨hz, h1⟩ := po_if h1
  have h1 := Po.bind w1 h1
  unfold noX at h1
  obtain ⟨own1, ev1⟩ := (ev.mono l1 w1 s1).wiped vs
  have nD : ∀ i, own1 i ≠ some p := fun i q => by
    obtain ⟨z, _⟩ := ev1.oB i p q
    exact w1.free hp z
  have z0 : Nw H0 p := fun o q t => by
    rcases ev1.le.kp p o q t with ⟨n, y⟩ | y
    · exact absurd (w1.rg n p (ev1.le.ph n p y)) (w1.free hp)
    · rw [hp] at y; cases y
  cases qr : compL b t f (wipeE ρ vs) ds S1 with
  | bad => rw [qr] at h1; exact h1.elim
  | exc c fs S' => rw [qr] at h1; exact h1.elim
  | ok ys S2 =>
    rw [qr] at h1
    have fin : ∀ W3 H3, Le W1 H1 W3 H3 → WOk W3 H3 → StOk G W3 H3 S2 → ∀ v, Rp G W3 H3 v (.lst ys) → Q v H3 := fun W3 H3 l w s v r => Po.now w s (h1 W3 H3 l w s) v r
    -- the invariant
    refine ⟨fun i m H' => m = ds.length - i ∧ i ≤ ds.length ∧ ∃ (Wc : Wd) (Sc : Store) (av : List V) (ad zs : List D), Ev G W0 H0 Wc H' Sc (wipe σ vs) (wipeE ρ vs) own1 ∧ Le W1 H1 Wc H' ∧ Wc.B p ∧ (∀ n, Wc.phi n ≠ some p) ∧
      H' p = some (.lst av) ∧ RpA G Wc H' av ad ∧ ad.length ≤ i ∧ compL b t f (wipeE ρ vs) (ds.drop i) Sc = .ok zs S2 ∧ ys = ad ++ zs, ?_, ?_⟩
    · exact ⟨ds.length, by simp, Nat.zero_le _, W1.add p, S1, [], [], ys, ev1.mono (le_add hp) (ok_add w1 hp) (st_add w1 s1 hp), le_add hp, .inr rfl, fun n q => w1.free hp (w1.rg n p q), upd_same, .nil, Nat.le_refl _, qr, rfl⟩
    · rintro i m H' ⟨rfl, hi, Wc, Sc, av, ad, zs, ec, lc, Bp, np, hL, ra, hlen, hr, hy⟩
      by_cases hlt : i < ds.length
      · obtain ⟨d, hd⟩ : ∃ d, ds[i]? = some d := ⟨ds[i], by simp [hlt]⟩
        have hdr : ds.drop i = d :: ds.drop (i + 1) := by
          rw [List.drop_eq_getElem_cons hlt]
          have : ds[i] = d := by simpa [hlt] using hd
          rw [this]
        rw [hdr] at hr
        obtain ⟨ρ', k, Sk, hb, ht, hk1, hk0⟩ := compL_ok hr
        obtain ⟨go, yl⟩ := hJ.go Wc H' (lc.lw w1) ec.wk i d hd
        refine .inr ⟨go, _, fun H2 h2 => ⟨ds.length - (i + 1), by omega, h2⟩, fun x H2 y2 => ?_⟩
        obtain ⟨sm, rx⟩ := yl x H2 y2
        have e2 := ec.same sm
        have lc2 : Le W1 H1 Wc H2 := lc.trans (Le.same sm) w1 e2.wk
        refine ⟨W0, H0, Wc, Sc, _, own1, d, ρ', e2, rx, hb, fun σ3 own3 o3 e3 => ?_⟩
        refine ⟨?_, W0, H0, Wc, Sc, ρ', own3, e3, ?_⟩
        · rw [wipe_same o3 hw, wipe_same (ws := vs) ⟨wipe_length σ vs, fun j hj => wipe_out hj⟩ fun _ h => h]
        · rw [ht]
          intro W3 H3 l3 w3 s3
          have e4 := e3.mono l3 w3 s3
          cases k with
          | true =>
            obtain ⟨y, Sy, zs', hf, hz2, hys⟩ := hk1 rfl
            refine iteT ⟨W0, H0, W3, Sk, ρ', own3, e4, ?_⟩
            rw [hf]
            intro W4 H4 l4 w4 s4 v rv
            have l34 := l3.trans l4 e3.wk w4
            have e5 := e2.mono l34 w4 s4
            have hL4 : H4 p = some (.lst av) := by
              rcases l34.kp p _ (sm _ _ hL) with ⟨n, z⟩ | z
              · exact absurd z (np n)
              · exact z
            have ra4 := (ra.mono (Lw.same sm)).mono (l34.lw e2.wk)
            have np4 : ∀ n, W4.phi n ≠ some p := fun n z => by
              rcases l34.ps n p z with y | y
              · exact np n y
              · exact y.no (sm _ _ hL)
            have Bp4 : W4.B p := l34.Bm p Bp
            refine ⟨av, hL4, by rw [ra.length, sizeLine_eq]; omega, ?_⟩
            have lwp : Lw W4 H4 W4 (upd H4 p (.lst (av ++ [v]))) := ⟨fun _ _ h => h, fun _ h => .inl h, fun c u h _ nb => by rw [upd_ne (fun z => nb (by rw [z]; exact Bp4))]; exact h⟩
            have lc4 := lc2.trans l34 w1 w4
            refine ⟨rfl, hlt, W4, Sy, av ++ [v], ad ++ [y], zs', e5.poke hL4 Bp4 z0 np4 nD, ⟨lc4.ph, lc4.ps, lc4.Bm, lc4.Bn, fun c u h tu => ?_⟩, Bp4, np4, upd_same, (ra4.mono lwp).app (.cons (rv.mono lwp) .nil), ?_, hz2, ?_⟩
            · rcases lc4.kp c u h tu with z | z
              · exact .inl z
              · exact .inr (by rw [upd_ne (fun q => by rw [q, hp] at h; cases h)]; exact z)
            · rw [List.length_append, List.length_singleton]; omega
            · rw [hy, hys, List.append_assoc]; rfl
          | false =>
            refine iteF ⟨rfl, hlt, W3, Sk, av, ad, zs, e2.mono l3 w3 s3, lc2.trans l3 w1 w3, l3.Bm p Bp, fun n z => ?_, ?_, (ra.mono (Lw.same sm)).mono (l3.lw e2.wk), by omega, hk0 rfl, hy⟩
            · rcases l3.ps n p z with y | y
              · exact np n y
              · exact y.no (sm _ _ hL)
            · rcases l3.kp p _ (sm _ _ hL) with ⟨n, z⟩ | z
              · exact absurd z (np n)
              · exact z
      · have e : i = ds.length := by omega
        subst e
        rw [List.drop_length] at hr
        have hr : Res.ok ([] : List D) Sc = Res.ok zs S2 := hr
        injection hr with hr1 hr2
        subst hr1 hr2
        rw [List.append_nil] at hy
        subst hy
        refine .inl ⟨hJ.stop Wc H' (lc.lw w1) _ (Nat.le_refl _), ?_⟩
        have lwd : Lw Wc H' (Wc.del p) H' := ⟨fun _ _ h => h, fun _ h => .inl h.1, fun _ _ h _ _ => h⟩
        refine fin (Wc.del p) H' ⟨lc.ph, lc.ps, fun a h => ⟨lc.Bm a h, fun z => w1.free hp (by rw [← z]; exact h)⟩, fun a h => lc.Bn a h.1, lc.kp'⟩ ⟨fun a h => ec.wk.tr a h.1, fun n a h => ⟨ec.wk.rg n a h, fun z => np n (by rw [← z]; exact h)⟩, ec.wk.ij⟩
          ⟨fun n c h => let ⟨a, h1, h2⟩ := ec.st.at_ n c h; ⟨a, h1, h2.same lwd fun _ q => q⟩, ec.st.top, ec.st.tb⟩ _ (.lst hL (fun z => z.2 rfl) (ra.mono lwd))

variable {fi : Env → M (List D)} {b : Bd} {t : Env → M Bool} {f : Env → M D} {vs ws : List Nat}
abbrev DTs (X : Cx) (cl : Cls_) (E : WX) (es : List Expr) (f : Env → M Bool) : Prop := PTs X es (tB_ ⟨X.K, cl⟩ E f)
theorem pts_imp {es : List Expr} {t t' : TT} (h : PTs X es t) (i : ∀ σ H Q, t' σ H Q → t σ H Q) : PTs X es t' := ⟨fun pins s σ H Q I q => h.run pins s σ H Q I (i σ H Q q)⟩
theorem dts_nil : DTs X cl E [] cYes := pts_imp pts_nil fun σ H Q ⟨W0, H0, W, S, ρ, own, ev, h⟩ => Po.now ev.wk ev.st h
theorem dts_one {c : Expr} (h : DT X cl E c t) : DTs X cl E [c] t := pts_one h
abbrev Cx.bl (X : Cx) (s : Shared) (H : Hp) (scope : Scope) (C : Addr) (cs : List (Str × Addr)) (fp : List Addr) : Cx := X.blk s H scope (compEnvC scope cs C X.env) fp
theorem de_lc {elt tg iter : Expr} {ifs : List Expr} {scope : Scope} (own : List (Str × Nat)) {pos : Pos} (hc : X.calm = true) (hN : X.N.Nodup) (hi : DI X cl E tg iter fi) (ok : BlkOk X.N X.env.scope scope own)
    (hg : ∀ (s : Shared) (H : Hp) (C : Addr) (cs : List (Str × Addr)) (fp : List Addr), DG (Cx.bl X s H scope C cs fp) cl tg b ws) (ht : ∀ (s : Shared) (H : Hp) (C : Addr) (cs : List (Str × Addr)) (fp : List Addr), DTs (Cx.bl X s H scope C cs fp) cl E0_ ifs t)
    (he : ∀ (s : Shared) (H : Hp) (C : Addr) (cs : List (Str × Addr)) (fp : List Addr), DE (Cx.bl X s H scope C cs fp) cl E0_ elt f) (hw : ∀ i ∈ ws, i ∈ own.map (·.2) := by decide) (hs : ∀ x, foldedSetIterable iter X.env x = pure x := by intro _; rfl) :
    DE X cl E (.ListComp elt [⟨tg, iter, ifs, 0⟩] scope pos) (cComp fi b t f (own.map (·.2))) :=
  pe_imp (pe_lc hc hN hi ok hg ht he hs) fun σ H Q h => tLc_of (G := ⟨X.K, cl⟩) hw h

/-! ### statements -/
theorem PoS.step {G : Gx} {E : WX} {W0 W W1 : Wd} {H0 H H1 : Hp} {r : RS} {R : Fl → Env → Store → Wd → Hp → L2.St → (Nat → Option Addr) → Prop} (l : Lw W H W1 H1) (h : PoS G E W0 H0 W H r R) : PoS G E W0 H0 W1 H1 r R := by
  cases r with
  | go fl ρ' S' => exact fun W' H' σ' own' l' e' => h W' H' σ' own' (l.trans l') e'
  | exc c fs ρ' S' => exact fun W' H' σ' own' cls dd l' e' => h W' H' σ' own' cls dd (l.trans l') e'
  | bad => exact h
theorem PoS.imp {G : Gx} {E : WX} {W0 W : Wd} {H0 H : Hp} {r : RS} {R R' : Fl → Env → Store → Wd → Hp → L2.St → (Nat → Option Addr) → Prop} (h : PoS G E W0 H0 W H r R)
    (i : ∀ fl ρ' S' W' H' σ' own', Lw W H W' H' → Ev G W0 H0 W' H' S' σ' ρ' own' → R fl ρ' S' W' H' σ' own' → R' fl ρ' S' W' H' σ' own') : PoS G E W0 H0 W H r R' := by
  cases r with
  | go fl ρ' S' => exact fun W' H' σ' own' l' e' => i _ _ _ _ _ _ _ l' e' (h W' H' σ' own' l' e')
  | exc c fs ρ' S' => exact h
  | bad => exact h
abbrev wF (G : Gx) (Dn : Ends) : Fl → Env → Store → Wd → Hp → L2.St → (Nat → Option Addr) → Prop := fun fl _ _ W' H' σ' _ => wantF G Dn W' σ' H' fl
/-- an expression's result, then what is made of it -/
def onE {α : Type} (r : Res α) (ρ : Env) (k : α → Store → RS) : RS := match r with
  | .ok a S' => k a S'
  | .exc c fs S' => .exc c fs ρ S'
  | .bad => .bad
theorem PoS.onE {G : Gx} {E : WX} {W0 W : Wd} {H0 H : Hp} {S : Store} {σ : L2.St} {ρ : Env} {own : Nat → Option Addr} {α : Type} {r : Res α} {k : α → Store → RS} {R : Fl → Env → Store → Wd → Hp → L2.St → (Nat → Option Addr) → Prop}
    (ev : Ev G W0 H0 W H S σ ρ own) (h : PoS G E W0 H0 W H (DN.onE r ρ k) R) : Po G E σ W H r (fun a S1 W1 H1 => PoS G E W0 H0 W1 H1 (k a S1) R) := by
  cases r with
  | ok a S' => exact fun W' H' l w s => PoS.step (l.lw ev.wk) h
  | exc c fs S' => exact fun W' H' cls dd l w s x => h W' H' σ own cls dd (l.lw ev.wk) (ev.mono l w s) x
  | bad => exact h
def cAsg (fe : Env → M D) (b : Bd) : Sm := fun ρ S => onE (fe ρ S) ρ fun d S' => match b d ρ with
  | some ρ' => .go .nx ρ' S'
  | none => .bad
def cRet (fe : Env → M D) : Sm := fun ρ S => onE (fe ρ S) ρ fun d S' => .go (.rt d) ρ S'
def cDrop (fe : Env → M D) : Sm := fun ρ S => onE (fe ρ S) ρ fun _ S' => .go .nx ρ S'
def cIfS (t : Env → M Bool) (f g : Sm) : Sm := fun ρ S => onE (t ρ S) ρ fun b S' => if b then f ρ S' else g ρ S'
def cNext : Sm := fun ρ S => .go .nx ρ S
def cRetN : Sm := fun ρ S => .go (.rt .non) ρ S
def cBrk : Sm := fun ρ S => .go .bk ρ S
def cCont : Sm := fun ρ S => .go .ct ρ S
def cSeq (f g : Sm) : Sm := fun ρ S => match f ρ S with
  | .go .nx ρ' S' => g ρ' S'
  | r => r
def forL (b : Bd) (body : Sm) : List D → Sm
  | [] => fun ρ S => .go .nx ρ S
  | d :: ds => fun ρ S => match b d ρ with
    | none => .bad
    | some ρ1 => match body ρ1 S with
      | .go .nx ρ2 S2 => forL b body ds ρ2 S2
      | .go .ct ρ2 S2 => forL b body ds ρ2 S2
      | .go .bk ρ2 S2 => .go .nx ρ2 S2
      | r => r
def cFor (fi : Env → M (List D)) (b : Bd) (body : Sm) : Sm := fun ρ S => onE (fi ρ S) ρ fun ds S' => forL b body ds ρ S'
variable {e c : Expr} {st : Stmt} {sts body orelse : List Stmt} {fe : Env → M D} {fs gs : Sm} {pos : Pos}
theorem dss_nil : DSs X cl E [] cNext := pss_imp pss_nil fun Dn σ H ⟨W0, H0, W, S, ρ, own, ev, h⟩ => h W H σ own Lw.refl ev
theorem dss_one (h : DS X cl E st fs) : DSs X cl E [st] fs := pss_one h
theorem dss_cons (h1 : DS X cl E st fs) (h2 : DSs X cl E sts gs) : DSs X cl E (st :: sts) (cSeq fs gs) := by
  refine pss_imp (pss_cons h1 h2) fun Dn σ H ⟨W0, H0, W, S, ρ, own, ev, h⟩ => ?_
  refine ⟨W0, H0, W, S, ρ, own, ev, ?_⟩
  have h : PoS ⟨X.K, cl⟩ E W0 H0 W H (cSeq fs gs ρ S) (wF ⟨X.K, cl⟩ Dn) := h
  unfold cSeq at h
  cases q : fs ρ S with
  | bad => rw [q] at h; exact h
  | exc c f ρ' S' => rw [q] at h; exact h
  | go fl ρ' S' =>
    rw [q] at h
    intro W' H' σ' own' l' e'
    cases fl with
    | nx => exact ⟨W0, H0, W', S', ρ', own', e', PoS.step l' h⟩
    | rt d => exact h W' H' σ' own' l' e'
    | bk => exact h W' H' σ' own' l' e'
    | ct => exact h W' H' σ' own' l' e'
theorem ds_pass : DS X cl E (.Pass pos) cNext := ps_imp ps_pass fun Dn σ H ⟨W0, H0, W, S, ρ, own, ev, h⟩ => h W H σ own Lw.refl ev
theorem ds_doc {x j pos pos'} : DS X cl E (.Expr (.Constant (.str x) j pos) pos') cNext := ps_imp ps_doc fun Dn σ H ⟨W0, H0, W, S, ρ, own, ev, h⟩ => h W H σ own Lw.refl ev
theorem ds_break : DS X cl E (.Break pos) cBrk := ps_imp ps_break fun Dn σ H ⟨W0, H0, W, S, ρ, own, ev, h⟩ => h W H σ own Lw.refl ev
theorem ds_cont : DS X cl E (.Continue pos) cCont := ps_imp ps_continue fun Dn σ H ⟨W0, H0, W, S, ρ, own, ev, h⟩ => h W H σ own Lw.refl ev
theorem ds_retN : DS X cl E (.Return none pos) cRetN := ps_imp ps_retN fun Dn σ H ⟨W0, H0, W, S, ρ, own, ev, h⟩ => h W H σ own Lw.refl ev .non .non
theorem ds_ret (he : DE X cl E e fe) : DS X cl E (.Return (some e) pos) (cRet fe) := by
  refine ps_imp (ps_ret he) fun Dn σ H ⟨W0, H0, W, S, ρ, own, ev, h⟩ => ⟨W0, H0, W, S, ρ, own, ev, (PoS.onE ev h).imp fun d S1 W1 H1 l w s hh v rv => ?_⟩
  exact hh W1 H1 σ own Lw.refl (ev.mono l w s) v rv
theorem ds_expr (he : DE X cl E e fe) (hs : swapsWith e none pos.line X.env = pure false := by rfl) : DS X cl E (.Expr e pos) (cDrop fe) := by
  refine ps_imp (ps_expr he hs) fun Dn σ H ⟨W0, H0, W, S, ρ, own, ev, h⟩ => ⟨W0, H0, W, S, ρ, own, ev, (PoS.onE ev h).imp fun d S1 W1 H1 l w s hh v rv => ?_⟩
  exact hh W1 H1 σ own Lw.refl (ev.mono l w s)
theorem ds_if {a b : List Stmt} (hc : DT X cl E c t) (ha : DSs X cl E a fs) (hb : DSs X cl E b gs) : DS X cl E (.If c a b pos) (cIfS t fs gs) := by
  refine ps_imp (ps_if hc ha hb) fun Dn σ H ⟨W0, H0, W, S, ρ, own, ev, h⟩ => ⟨W0, H0, W, S, ρ, own, ev, (PoS.onE ev h).imp fun k S1 W1 H1 l w s hh => ?_⟩
  cases k with
  | true => exact iteT ⟨W0, H0, W1, S1, ρ, own, ev.mono l w s, hh⟩
  | false => exact iteF ⟨W0, H0, W1, S1, ρ, own, ev.mono l w s, hh⟩
theorem ds_asg {tg : Expr} (he : DE X cl E e fe) (hg : DG X cl tg b ws) (hs : swapsWithSole [tg] e pos.line X.env = pure false := by rfl) (hw : swappedStores [tg] e X.env = pure none := by rfl) (h1 : (assignEach [tg] X.env).map (·.2) = [assign tg X.env] := by rfl) : DS X cl E (.Assign [tg] e pos) (cAsg fe b) := by
  refine ps_imp (ps_asg he hg hs hw h1) fun Dn σ H ⟨W0, H0, W, S, ρ, own, ev, h⟩ => ⟨W0, H0, W, S, ρ, own, ev, (PoS.onE ev h).imp fun d S1 W1 H1 l w s hh v rv => ?_⟩
  cases q : b d ρ with
  | none => rw [q] at hh; exact hh.elim
  | some ρ' =>
    rw [q] at hh
    exact ⟨W0, H0, W1, S1, ρ, own, d, ρ', ev.mono l w s, rv, q, fun σ' own' _ e' => hh W1 H1 σ' own' Lw.refl e'⟩
/-- name = value -/
theorem ds_set (i : Nat) {x : Str} {pos' : Pos} (hN : X.N.Nodup) (he : DE X cl E e fe) (hi : X.N[i]? = some x := by rfl) (hx : Loc X.env.scope x := by first | exact Or.inl rfl | exact Or.inr rfl) (hs : swapsWith e (some (.Name x pos')) pos.line X.env = pure false := by rfl) (hf : X.fn x = true ∨ X.env.scope.names.lookup x = some .local := by first | exact .inl rfl | exact .inr rfl) :
    DS X cl E (.Assign [.Name x pos'] e pos) (cAsg fe (bName i)) := by
  refine ps_imp (ps_set (i := i) hN hi hx he hs hf) fun Dn σ H ⟨W0, H0, W, S, ρ, own, ev, h⟩ => ⟨W0, H0, W, S, ρ, own, ev, (PoS.onE ev h).imp fun d S1 W1 H1 l w s hh v rv => ?_⟩
  exact hh W1 H1 _ _ Lw.refl ((ev.mono l w s).set rv)
/-- name = [..] -/
theorem ds_setLc (i : Nat) {y : Str} {py : Pos} {elt tg iter : Expr} {ifs : List Expr} {scope : Scope} (own : List (Str × Nat)) {pos spos : Pos} (hc : X.calm = true) (hN : X.N.Nodup) (hi : DI X cl E tg iter fi) (ok : BlkOk X.N X.env.scope scope own)
    (hg : ∀ (s : Shared) (H : Hp) (C : Addr) (cs : List (Str × Addr)) (fp : List Addr), DG (Cx.bl X s H scope C cs fp) cl tg b ws) (ht : ∀ (s : Shared) (H : Hp) (C : Addr) (cs : List (Str × Addr)) (fp : List Addr), DTs (Cx.bl X s H scope C cs fp) cl E0_ ifs t)
    (he : ∀ (s : Shared) (H : Hp) (C : Addr) (cs : List (Str × Addr)) (fp : List Addr), DE (Cx.bl X s H scope C cs fp) cl E0_ elt f)
    (hsw : swapsWith (.ListComp elt [⟨tg, iter, ifs, 0⟩] scope pos) (some (.Name y py)) spos.line X.env = pure true := by exact sw_true rfl rfl rfl (by decide +kernel)) (hy : X.N[i]? = some y := by rfl) (hyl : X.env.scope.names.lookup y = some .local := by rfl)
    (hw : ∀ i ∈ ws, i ∈ own.map (·.2) := by decide) (hs : ∀ x, foldedSetIterable iter X.env x = pure x := by intro _; rfl) :
    DS X cl E (.Assign [.Name y py] (.ListComp elt [⟨tg, iter, ifs, 0⟩] scope pos) spos) (cAsg (cComp fi b t f (own.map (·.2))) (bName i)) := by
  refine ps_imp (ps_setLc (i := i) (g := tG ⟨X.K, cl⟩ b ws) (tt := tB_ ⟨X.K, cl⟩ E0_ t) (te := tE ⟨X.K, cl⟩ E0_ f) hc hN hy hyl hsw hi ok hg ht he hs) fun Dn σ H ⟨W0, H0, W, S, ρ, own', ev, h⟩ => ?_
  refine tLc_of (G := ⟨X.K, cl⟩) hw ⟨W0, H0, W, S, ρ, own', ev, (PoS.onE ev h).imp fun d S1 W1 H1 l w s hh v rv => ?_⟩
  exact hh W1 H1 _ _ Lw.refl ((ev.mono l w s).set rv)
theorem ds_for {tg iter : Expr} (hp : PassesOwn (model X.prog X.w) X.A X.env X.xe) (hc : X.calm = true) (hi : DI X cl E tg iter fi) (hg : DG X cl tg b ws) (hb : DSs X cl E body fs) (hs : ∀ x, foldedSetIterable iter X.env x = pure x := by intro _; rfl) :
    DS X cl E (.For tg iter body [] pos) (cFor fi b fs) := by
  refine ps_imp (ps_for hp hc hi hg hb hs) fun Dn σ H ⟨W0, H0, W, S, ρ, own, ev, h⟩ => ?_
  refine ⟨W0, H0, W, S, ρ, own, ev, (PoS.onE ev h).imp fun ds S1 W1 H1 l1 w1 s1 hh J hJ => ?_⟩
  refine ⟨fun i m σ' H' => m = ds.length - i ∧ i ≤ ds.length ∧ ∃ (Wc : Wd) (Sc : Store) (ρc : Env) (oc : Nat → Option Addr), Ev ⟨X.K, cl⟩ W0 H0 Wc H' Sc σ' ρc oc ∧ Lw W1 H1 Wc H' ∧ PoS ⟨X.K, cl⟩ E W0 H0 Wc H' (forL b fs (ds.drop i) ρc Sc) (wF ⟨X.K, cl⟩ Dn),
    ⟨ds.length, by simp, Nat.zero_le _, W1, S1, ρ, own, ev.mono l1 w1 s1, Lw.refl, hh⟩, ?_⟩
  rintro i m σ' H' ⟨rfl, hi, Wc, Sc, ρc, oc, ec, lc, hq⟩
  by_cases hlt : i < ds.length
  · obtain ⟨d, hd⟩ : ∃ d, ds[i]? = some d := ⟨ds[i], by simp [hlt]⟩
    have hdr : ds.drop i = d :: ds.drop (i + 1) := by
      rw [List.drop_eq_getElem_cons hlt]
      have : ds[i] = d := by simpa [hlt] using hd
      rw [this]
    rw [hdr] at hq
    obtain ⟨go, yl⟩ := hJ.go Wc H' lc ec.wk i d hd
    refine .inr ⟨go, _, fun σ2 H2 h2 => ⟨ds.length - (i + 1), by omega, h2⟩, fun x H2 y2 => ?_⟩
    obtain ⟨sm, rx⟩ := yl x H2 y2
    have e2 := ec.same sm
    have hq := PoS.step (Lw.same sm) hq
    unfold forL at hq
    cases q : b d ρc with
    | none => rw [q] at hq; exact hq.elim
    | some ρ1 =>
      rw [q] at hq
      dsimp only at hq
      refine ⟨W0, H0, Wc, Sc, ρc, oc, d, ρ1, e2, rx, q, fun σ3 own3 _ e3 => ⟨W0, H0, Wc, Sc, ρ1, own3, e3, ?_⟩⟩
      cases q2 : fs ρ1 Sc with
      | bad => rw [q2] at hq; exact hq.elim
      | exc c f ρ' S' => rw [q2] at hq; exact hq
      | go fl ρ2 S2 =>
        rw [q2] at hq
        intro W' H3 σ4 own4 l4 e4
        have l5 := (lc.trans (Lw.same sm)).trans l4
        cases fl with
        | nx => exact ⟨rfl, hlt, W', S2, ρ2, own4, e4, l5, PoS.step l4 hq⟩
        | ct => exact ⟨rfl, hlt, W', S2, ρ2, own4, e4, l5, PoS.step l4 hq⟩
        | bk => exact hq W' H3 σ4 own4 l4 e4
        | rt d => exact hq W' H3 σ4 own4 l4 e4
  · have e : i = ds.length := by omega
    subst e
    rw [List.drop_length] at hq
    exact .inl ⟨hJ.stop Wc H' lc _ (Nat.le_refl _), hq Wc H' σ' oc Lw.refl ec⟩
end

/-! ### defs -/
def runF (n m : Nat) (body : Sm) : List D → M D := fun ds S =>
  if ds.length = n then
    match body (ds.map Sl.val ++ List.replicate (m - n) Sl.un) S with
    | .go (.rt d) _ S' => .ok d S'
    | .go .nx _ S' => .ok .non S'
    | .exc c fs _ S' => .exc c fs S'
    | _ => .bad
  else .bad
def spD (G : Gx) (n : Nat) (F : List D → M D) : Sp := fun vs H Q E => ∃ W S ds, WOk W H ∧ StOk G W H S ∧ RpA G W H vs ds ∧ ds.length = n ∧ Po G (fun c d _ H => E c d H) [] W H (F ds S) (RV G Q)
theorem Po.wish {G : Gx} {E E' : WX} {σ σ' : L2.St} {W : Wd} {H : Hp} {α : Type} {r : Res α} {R : α → Store → Wd → Hp → Prop} (h : Po G E σ W H r R) (i : ∀ c d H, E c d σ H → E' c d σ' H) : Po G E' σ' W H r R := by
  cases r with
  | ok a S' => exact h
  | exc c fs S' => exact fun W' H' cls dd l w s x => i _ _ _ (h W' H' cls dd l w s x)
  | bad => exact h
theorem ev_start {G : Gx} {W : Wd} {H : Hp} {S : Store} {vs : List V} {ds : List D} {m : Nat} (N : List Str) (w : WOk W H) (s : StOk G W H S) (r : RpA G W H vs ds) (hm : m = N.length) : Ev G W H W H S (L2.start N vs) (ds.map Sl.val ++ List.replicate (m - ds.length) Sl.un) (fun _ => none) := by
  refine ⟨w, w, Le.refl, s, ?_, fun i d h => ?_, fun i xs h => ?_, fun i a h => (nomatch h), fun i j a h => (nomatch h), fun i a h => ?_⟩
  · unfold L2.start
    rw [List.length_append, List.length_append, List.length_map, List.length_map, List.length_replicate, List.length_replicate, r.length, hm]
  · by_cases hi : i < ds.length
    · rw [List.getElem?_append_left (by simpa using hi), List.getElem?_map] at h
      obtain ⟨d', h1, h2⟩ := Option.map_eq_some_iff.mp h
      cases h2
      obtain ⟨v, h3, h4⟩ := r.get h1
      refine ⟨v, ?_, h4⟩
      unfold L2.start
      rw [List.getElem?_append_left (by rw [List.length_map, r.length]; exact hi), List.getElem?_map, h3]
      rfl
    · rw [List.getElem?_append_right (by simpa using hi), List.getElem?_replicate] at h
      split at h <;> cases h
  · by_cases hi : i < ds.length
    · rw [List.getElem?_append_left (by simpa using hi), List.getElem?_map] at h
      obtain ⟨d', h1, h2⟩ := Option.map_eq_some_iff.mp h
      cases h2
    · rw [List.getElem?_append_right (by simpa using hi), List.getElem?_replicate] at h
      split at h <;> cases h
  · by_cases hi : i < ds.length
    · rw [List.getElem?_append_left (by simpa using hi), List.getElem?_map] at h
      obtain ⟨d', h1, h2⟩ := Option.map_eq_some_iff.mp h
      cases h2
    · rw [List.getElem?_append_right (by simpa using hi), List.getElem?_replicate] at h
      split at h <;> cases h
section
variable {P : Program} {w : World} {K : PySem.W.Frag} {mg : Str → Option Value} {base : Heap} {cl : Cls_}
abbrev FnD (P : Program) (w : World) (K : PySem.W.Frag) (mg : Str → Option Value) (base : Heap) (cl : Cls_) (k : Nat) (f : Addr) (fd : FuncData) (ps : List Str) (F : List D → M D) : Prop := FnOk P w K mg base (L2.CX P w) k f fd ps (spD ⟨K, cl⟩ ps.length F)
/-- the context of a def's body -/
abbrev cxD (P : Program) (w : World) (K : PySem.W.Frag) (mg : Str → Option Value) (base : Heap) (N : List Str) (qual : Str) (st : Stmt) (f : Addr) (cdv : Value) (A : Around) (outer : List PySem.Env) (s : Shared) (H : Hp) (E : XK) : Cx := cxOf (L2.CX P w) P w K mg base N qual (defScope st) f cdv A outer s H E
theorem fn_D {x qual : Str} {st : Stmt} {f : Addr} {fd : FuncData} {N ps : List Str} {k : Nat} {body : Sm} (F : Fun K x qual st f fd) (S : FnScope N ps (defScope st))
    (hb : ∀ (cdv : Value) (A : Around) (outer : List PySem.Env) (s : Shared) (H : Hp) (E : XK), Room k (A.deeper (envOfC qual (defScope st) s.heap.objs.size f cdv)) → DSs (cxD P w K mg base N qual st f cdv A outer s H E) cl (fun c d _ H => E c d H) (defBody st) body) :
    FnD P w K mg base cl (k + 1) f fd ps (runF ps.length N.length body) := by
  refine F.okX S (fun vs H Q E ⟨W, S, ds, _, _, r, e, _⟩ => r.length.trans e) fun cdv A outer s H vs Q E hr ⟨W, S, ds, w0, s0, r, e, h⟩ => ⟨_, hb cdv A outer s H E hr, ?_⟩
  refine ⟨W, H, W, S, _, _, ev_start N w0 s0 r rfl, ?_⟩
  have h : Po ⟨K, cl⟩ (fun c d _ H => E c d H) [] W H (runF ps.length N.length body ds S) (RV ⟨K, cl⟩ Q) := h
  unfold runF at h
  rw [if_pos e, ← e] at h
  cases q : body (ds.map Sl.val ++ List.replicate (N.length - ds.length) Sl.un) S with
  | bad => rw [q] at h; exact h.elim
  | exc c fs ρ' S' =>
    rw [q] at h
    exact fun W' H' σ' own' cls dd l' e' x => h W' H' cls dd e'.le e'.wk e'.st x
  | go fl ρ' S' =>
    rw [q] at h
    intro W' H' σ' own' l' e'
    cases fl with
    | nx => exact h W' H' e'.le e'.wk e'.st _ .non
    | rt d => exact fun v rv => h W' H' e'.le e'.wk e'.st v rv
    | bk => exact h.elim
    | ct => exact h.elim
end
/-- a call of a def of the text -/
def cCall (n : Nat) (F : List D → M D) (fs : Env → M (List D)) : Env → M D := cA (fun ds => if ds.length = n then F ds else M.bad) fs
section
variable {X : Cx} {cl : Cls_} {E : WX} {k : Nat} {f : Addr} {fd : FuncData} {ps : List Str} {x : Str} {p pos : Pos} {e : Expr} {es : List Expr} {fs : Env → M (List D)} {F : List D → M D}
theorem de_call (FF : FnD X.prog X.w X.K X.mg X.base cl k f fd ps F) (hr : Room k X.A) (hm : X.mg x = some (.ref f)) (hk : PySem.W.keepIn X.K (.ref f) = true) (hb : Binds X.K fd ps []) (tk : Takes X E) (ha : DA X cl E (e :: es) fs) (hg : Gl X x := by rfl) (hdb : (x == ("__debug__" : Str)) = false := by decide)
    (he : starEach (e :: es) X.env = (false, eval e X.env) :: starEach es X.env := by rfl) (hpl : (backTo pos (starEach es X.env)).any (·.1) = false := by rfl) : DE X cl E (.Call (.Name x p) (e :: es) [] pos) (cCall ps.length F fs) := by
  refine pe_imp (pe_callS FF hr hg hm hk hb (fun σ => passAt tk σ) ha hdb he hpl) fun σ H Q h => ?_
  refine tA_bind h fun W0 H0 W1 H1 S1 ρ own vs ds ev r hh => ?_
  obtain ⟨c, hh⟩ := po_if hh
  exact ⟨W1, S1, ds, ev.wk, ev.st, r, c, hh.wish fun _ _ _ q => q⟩
end
end DN
/-! DN6: in, stores into cells, lists of one's own, pairs of names, texts. -/
namespace DN
open PySem PySem.Spec PyProof.Rows L2

theorem _root_.L2.Room.un65 {k : Nat} {A : Around} (r : Room k A) : A.units + 65 < cLine := by have := r.un; omega
/-! ### in -/
def inP (x : D) (ys : List D) : Option Bool := match toP x, toPs ys with
  | some p, some qs => if SeqAt.shaped p = true ∧ SeqAt.shaped (.list qs) = true ∧ SeqAt.shaped (.tuple qs) = true then some (qs.any fun z => PyData.eqv z p) else none
  | _, _ => none
def inD : D → D → Option Bool
  | x, .lst ys => inP x ys
  | x, .tup ys => inP x ys
  | .str ⟨cs⟩, .str z => match cs.toList with
    | [c] => some (decide (c ∈ z.cps.toList))
    | _ => none
  | _, _ => none
def gIn (x y : D) : M D := match inD x y with
  | some b => M.pure (.bl b)
  | none => M.bad
def gNotIn (x y : D) : M D := match inD x y with
  | some b => M.pure (.bl (!b))
  | none => M.bad
section
variable {X : Cx} {cl : Cls_} {K : PySem.W.Frag}
def rInT (K : PySem.W.Frag) : R2 := fun x y H Q => ∃ d ds, Dp K H x d ∧ Dp K H y (.tuple ds) ∧ SeqAt.shaped d = true ∧ SeqAt.shaped (.tuple ds) = true ∧ Q (.bl (ds.any fun z => PyData.eqv z d)) H
def rNotInT (K : PySem.W.Frag) : R2 := fun x y H Q => ∃ d ds, Dp K H x d ∧ Dp K H y (.tuple ds) ∧ SeqAt.shaped d = true ∧ SeqAt.shaped (.tuple ds) = true ∧ Q (.bl (!ds.any fun z => PyData.eqv z d)) H
theorem op_inT (hu : X.A.units + 65 < cLine) : OpR X (compareOp .In) (rInT X.K) := by
  rintro pins s σ H x y v u Q I rx ry ⟨d, ds, hd, hds, s1, s2, q⟩
  obtain ⟨as, r1⟩ := Dp.reads I d x v hd rx
  obtain ⟨bs, r2⟩ := Dp.reads I (.tuple ds) y u hds ry
  exact SeqAt.in_tuple_reads r2 r1 (SeqAt.canLay_of_shaped s2) (SeqAt.canLay_of_shaped s1) (room_in_shaped s1 hu) (fin_bl I q rfl)
theorem op_notInT (hu : X.A.units + 65 < cLine) : OpR X (compareOp .NotIn) (rNotInT X.K) := by
  rintro pins s σ H x y v u Q I rx ry ⟨d, ds, hd, hds, s1, s2, q⟩
  obtain ⟨as, r1⟩ := Dp.reads I d x v hd rx
  obtain ⟨bs, r2⟩ := Dp.reads I (.tuple ds) y u hds ry
  exact SeqAt.notIn_tuple_reads r2 r1 (SeqAt.canLay_of_shaped s2) (SeqAt.canLay_of_shaped s1) (room_in_shaped s1 hu) (fin_bl I q rfl)
def rInA (K : PySem.W.Frag) : R2 := fun x y H Q => rInD K x y H Q ∨ rInT K x y H Q ∨ ∃ (c : Nat) (z : Str), x = .str ⟨#[c]⟩ ∧ y = .str z ∧ Q (.bl (decide (c ∈ z.cps.toList))) H
def rNotInA (K : PySem.W.Frag) : R2 := fun x y H Q => rNotInD K x y H Q ∨ rNotInT K x y H Q ∨ ∃ (c : Nat) (z : Str), x = .str ⟨#[c]⟩ ∧ y = .str z ∧ Q (.bl (!decide (c ∈ z.cps.toList))) H
theorem op_inA (hu : X.A.units + 65 < cLine) : OpR X (compareOp .In) (rInA X.K) := (op_inD hu).or ((op_inT hu).or op_in_sign)
theorem op_notInA (hu : X.A.units + 65 < cLine) : OpR X (compareOp .NotIn) (rNotInA X.K) := (op_notInD hu).or ((op_notInT hu).or op_notIn_sign)
theorem inP_ok {x : D} {ys : List D} {b : Bool} (h : inP x ys = some b) : ∃ p qs, toP x = some p ∧ toPs ys = some qs ∧ SeqAt.shaped p = true ∧ SeqAt.shaped (.list qs) = true ∧ SeqAt.shaped (.tuple qs) = true ∧ b = qs.any fun z => PyData.eqv z p := by
  unfold inP at h
  cases q1 : toP x with
  | none => rw [q1] at h; cases h
  | some p =>
    cases q2 : toPs ys with
    | none => rw [q1, q2] at h; cases h
    | some qs =>
      rw [q1, q2] at h
      dsimp only at h
      by_cases hc : SeqAt.shaped p = true ∧ SeqAt.shaped (.list qs) = true ∧ SeqAt.shaped (.tuple qs) = true
      · rw [if_pos hc] at h
        cases h
        exact ⟨p, qs, rfl, rfl, hc.1, hc.2.1, hc.2.2, rfl⟩
      · rw [if_neg hc] at h; cases h
theorem inD_ok {W : Wd} {H : Hp} {x y : V} {dx dy : D} {b : Bool} (rx : Rp ⟨K, cl⟩ W H x dx) (ry : Rp ⟨K, cl⟩ W H y dy) (h : inD dx dy = some b) :
    (∃ d ds, Dp K H x d ∧ Dp K H y (.list ds) ∧ SeqAt.shaped d = true ∧ SeqAt.shaped (.list ds) = true ∧ b = ds.any fun z => PyData.eqv z d) ∨
    (∃ d ds, Dp K H x d ∧ Dp K H y (.tuple ds) ∧ SeqAt.shaped d = true ∧ SeqAt.shaped (.tuple ds) = true ∧ b = ds.any fun z => PyData.eqv z d) ∨
    ∃ (c : Nat) (z : Str), x = .str ⟨#[c]⟩ ∧ y = .str z ∧ b = decide (c ∈ z.cps.toList) := by
  cases dy with
  | lst ys =>
    have h : inP dx ys = some b := by cases dx <;> exact h
    obtain ⟨p, qs, e1, e2, s1, s2, s3, e⟩ := inP_ok h
    exact .inl ⟨p, qs, rx.dp e1, ry.dp (by simp [toP, e2]), s1, s2, e⟩
  | tup ys =>
    have h : inP dx ys = some b := by cases dx <;> exact h
    obtain ⟨p, qs, e1, e2, s1, s2, s3, e⟩ := inP_ok h
    exact .inr (.inl ⟨p, qs, rx.dp e1, ry.dp (by simp [toP, e2]), s1, s3, e⟩)
  | str z =>
    cases dx with
    | str c =>
      obtain ⟨cs⟩ := c
      cases rx; cases ry
      unfold inD at h
      dsimp only at h
      split at h
      · rename_i c e
        cases h
        refine .inr (.inr ⟨c, z, ?_, rfl, rfl⟩)
        have : cs = #[c] := by rw [← Array.toList_inj]; exact e
        rw [this]
      · cases h
    | _ => cases h
  | _ => cases dx <;> cases h
theorem od_in : OpD K cl (rInA K) gIn := by
  intro E σ W H S x y dx dy Q w s rx ry h
  unfold gIn at h
  cases q : inD dx dy with
  | none => rw [q] at h; exact h.elim
  | some b =>
    rw [q] at h
    rcases inD_ok rx ry q with ⟨d, ds, h1, h2, h3, h4, e⟩ | ⟨d, ds, h1, h2, h3, h4, e⟩ | ⟨c, z, h1, h2, e⟩
    · subst e; exact .inl ⟨d, ds, h1, h2, h3, h4, Po.val w s h (.bl _)⟩
    · subst e; exact .inr (.inl ⟨d, ds, h1, h2, h3, h4, Po.val w s h (.bl _)⟩)
    · subst e; exact .inr (.inr ⟨c, z, h1, h2, Po.val w s h (.bl _)⟩)
theorem od_notIn : OpD K cl (rNotInA K) gNotIn := by
  intro E σ W H S x y dx dy Q w s rx ry h
  unfold gNotIn at h
  cases q : inD dx dy with
  | none => rw [q] at h; exact h.elim
  | some b =>
    rw [q] at h
    rcases inD_ok rx ry q with ⟨d, ds, h1, h2, h3, h4, e⟩ | ⟨d, ds, h1, h2, h3, h4, e⟩ | ⟨c, z, h1, h2, e⟩
    · subst e; exact .inl ⟨d, ds, h1, h2, h3, h4, Po.val w s h (.bl _)⟩
    · subst e; exact .inr (.inl ⟨d, ds, h1, h2, h3, h4, Po.val w s h (.bl _)⟩)
    · subst e; exact .inr (.inr ⟨c, z, h1, h2, Po.val w s h (.bl _)⟩)
end

/-! ### a store into a cell: o[i] = v -/
def gSetI (o i v : D) : M Unit := match o, i with
  | .mut n, .int k => fun S => match S[n]? with
    | some (.lst xs) => match ixN xs.length k with
      | some j => .ok () (S.set n (.lst (xs.set j v)))
      | none => .bad
    | _ => .bad
  | _, _ => M.bad
def cSetI (fe fo fi : Env → M D) : Sm := fun ρ S => onE (fe ρ S) ρ fun v S1 => onE (fo ρ S1) ρ fun o S2 => onE (fi ρ S2) ρ fun i S3 => onE (gSetI o i v S3) ρ fun _ S4 => .go .nx ρ S4
/-- a cell is changed -/
theorem put_cell {G : Gx} {W : Wd} {H : Hp} {S : Store} {n : Nat} {a : Addr} {o : HO} {c : Cell} (w : WOk W H) (s : StOk G W H S) (h : W.phi n = some a) (hn : n < S.length) (hc : Lw W H W (upd H a o) → CellOk G W (upd H a o) a c) (t : nt o := by intro _ z; cases z) :
    Le W H W (upd H a o) ∧ WOk W (upd H a o) ∧ StOk G W (upd H a o) (S.set n c) := by
  have hB := w.rg n a h
  have lw : Lw W H W (upd H a o) := ⟨fun _ _ h => h, fun _ h => .inl h, fun b u q _ nb => by rw [upd_ne (fun z => nb (by rw [z]; exact hB))]; exact q⟩
  refine ⟨⟨fun _ _ h => h, fun _ _ h => .inl h, fun _ h => h, fun _ h => .inl h, fun b u q _ => ?_⟩, ⟨fun b q => ?_, w.rg, w.ij⟩, ⟨fun m c' q => ?_, fun m q => ?_, ?_⟩⟩
  · by_cases e : b = a
    · exact .inl ⟨n, by rw [e]; exact h⟩
    · exact .inr (by rw [upd_ne e]; exact q)
  · by_cases e : b = a
    · exact ⟨o, by rw [e, upd_same], t⟩
    · obtain ⟨u, z, tu⟩ := w.tr b q
      exact ⟨u, by rw [upd_ne e]; exact z, tu⟩
  · by_cases e : m = n
    · subst e
      rw [List.getElem?_set_self hn] at q
      cases q
      exact ⟨a, h, hc lw⟩
    · rw [List.getElem?_set_ne (Ne.symm e)] at q
      obtain ⟨b, h1, h2⟩ := s.at_ m c' q
      exact ⟨b, h1, h2.same lw fun u z => by rw [upd_ne (fun y => e (w.ij m n a (by rw [← y]; exact h1) h))]; exact z⟩
  · rw [List.length_set] at q
    exact s.top m q
  · obtain ⟨b, h1, h2⟩ := s.at_ n S[n] (List.getElem?_eq_getElem hn)
    rw [h] at h1
    cases h1
    cases q : S[n] with
    | lst ds =>
      rw [q] at h2
      obtain ⟨vs, e, _⟩ := h2
      exact Tabs.put s.tb e (by intro _ z; cases z) code_lst
    | dct ds =>
      rw [q] at h2
      obtain ⟨vs, e, _⟩ := h2
      exact Tabs.put s.tb e (by intro _ z; cases z) code_dK
    | ins c0 ds =>
      rw [q] at h2
      obtain ⟨C, dx, vs, _, e, _⟩ := h2
      exact Tabs.put s.tb e (by intro _ z; cases z) (fun c q z => by unfold LamX.CodeO at z; cases z)
section
variable {X : Cx} {cl : Cls_} {E : WX} {o i e : Expr} {fo fi fe : Env → M D} {pos tpos : Pos}
theorem ds_setI (he : DE X cl E e fe) (ho : DE X cl E o fo) (hi : DE X cl E i fi)
    (ha : ∀ v, assign (.Subscript o i tpos) X.env v = (do
      let ov ← holding [v] (eval o X.env)
      let iv ← holding [v, ov] (eval i X.env)
      standAt tpos
      holding [v, ov, iv] (setItem ov iv v)
      release [v, ov, iv] []) := by intro _; rfl)
    (hs : swapsWithSole [.Subscript o i tpos] e pos.line X.env = pure false := by rfl) (hw : swappedStores [.Subscript o i tpos] e X.env = pure none := by rfl) (h1 : (assignEach [.Subscript o i tpos] X.env).map (·.2) = [assign (.Subscript o i tpos) X.env] := by rfl) :
    DS X cl E (.Assign [.Subscript o i tpos] e pos) (cSetI fe fo fi) := by
  refine ps_imp (ps_asg he (pg_sub ho hi set_list ha) hs hw h1) fun Dn σ H ⟨W0, H0, W, S, ρ, own, ev, h⟩ => ⟨W0, H0, W, S, ρ, own, ev, (PoS.onE ev h).imp fun dv S1 W1 H1 l1 w1 s1 h1 v rv => ?_⟩
  have ev1 := ev.mono l1 w1 s1
  refine ⟨W0, H0, W1, S1, ρ, own, ev1, (PoS.onE ev1 h1).imp fun d_o S2 W2 H2 l2 w2 s2 h2 ov rov => ?_⟩
  have ev2 := ev1.mono l2 w2 s2
  refine ⟨W0, H0, W2, S2, ρ, own, ev2, (PoS.onE ev2 h2).imp fun di S3 W3 H3 l3 w3 s3 h3 iv riv => ?_⟩
  have ev3 := ev2.mono l3 w3 s3
  have rv3 := (rv.mono (l2.lw w1)).mono (l3.lw w2)
  have ro3 := rov.mono (l3.lw w2)
  cases d_o with
  | «mut» n =>
    cases di with
    | int k =>
      unfold gSetI at h3
      dsimp only at h3
      cases q : S3[n]? with
      | none => rw [q] at h3; exact h3.elim
      | some c =>
        rw [q] at h3
        cases c with
        | dct _ => exact h3.elim
        | ins _ _ => exact h3.elim
        | lst xs =>
          dsimp only at h3
          cases qj : ixN xs.length k with
          | none => rw [qj] at h3; exact h3.elim
          | some j =>
            rw [qj] at h3
            obtain ⟨a, e1, vs, e2, ra⟩ := s3.at_ n _ q
            cases riv
            cases ro3 with
            | «mut» e0 =>
              rw [e1] at e0; cases e0
              refine ⟨a, vs, k, j, rfl, rfl, e2, by rw [ra.length]; exact qj, ?_⟩
              obtain ⟨l4, w4, s4⟩ := put_cell (o := .lst (vs.set j v)) (c := .lst (xs.set j dv)) w3 s3 e1 (List.getElem?_eq_some_iff.mp q).1 fun lw => ⟨_, upd_same, (ra.mono lw).set (rv3.mono lw) j⟩
              exact h3 W3 _ σ own (l4.lw w3) (ev3.mono l4 w4 s4)
    | _ => exact h3.elim
  | _ => exact h3.elim
end

/-! ### lists of the frame's own -/
def cSetOwn (i : Nat) (fs : Env → M (List D)) : Sm := fun ρ S => onE (fs ρ S) ρ fun ds S' => if ds.length ≤ 16777216 then .go .nx (ρ.set i (.own ds)) S' else .bad
def cApp (i : Nat) (fe : Env → M D) : Sm := fun ρ S => match ρ[i]? with
  | some (.own xs) => onE (fe ρ S) ρ fun d S' => if xs.length < 16777216 then .go .nx (ρ.set i (.own (xs ++ [d]))) S' else .bad
  | _ => .bad
def frzE (i : Nat) (ρ : Env) : Env := match ρ[i]? with
  | some (.own xs) => ρ.set i (.val (.lst xs))
  | _ => ρ
/-- from here on the list stays as it is -/
def cFrz (i : Nat) (f : Sm) : Sm := fun ρ S => f (frzE i ρ) S
theorem Ev.freeze {G : Gx} {W0 W : Wd} {H0 H : Hp} {S : Store} {σ : L2.St} {ρ : Env} {own : Nat → Option Addr} {i : Nat} (e : Ev G W0 H0 W H S σ ρ own) : ∃ W' own', Lw W H W' H ∧ Ev G W0 H0 W' H S σ (frzE i ρ) own' := by
  unfold frzE
  cases q : ρ[i]? with
  | none => exact ⟨W, own, Lw.refl, e⟩
  | some s =>
    cases s with
    | un => exact ⟨W, own, Lw.refl, e⟩
    | val d => exact ⟨W, own, Lw.refl, e⟩
    | adr a => exact ⟨W, own, Lw.refl, e⟩
    | own xs =>
      obtain ⟨p, vs, o1, h1, h2, r⟩ := e.so i xs q
      obtain ⟨hB, h0, hn⟩ := e.oB i p o1
      have lw : Lw W H (W.del p) H := ⟨fun _ _ h => h, fun _ h => .inl h.1, fun _ _ h _ _ => h⟩
      have hl : i < ρ.length := (List.getElem?_eq_some_iff.mp q).1
      refine ⟨W.del p, fun j => if j = i then none else own j, lw, e.w0, ⟨fun a h => e.wk.tr a h.1, fun n a h => ⟨e.wk.rg n a h, fun z => hn n (by rw [← z]; exact h)⟩, e.wk.ij⟩,
        ⟨e.le.ph, e.le.ps, fun a h => ⟨e.le.Bm a h, fun z => ?_⟩, fun a h => e.le.Bn a h.1, e.le.kp'⟩, ⟨fun n c h => let ⟨a, h1, h2⟩ := e.st.at_ n c h; ⟨a, h1, h2.same lw fun _ q => q⟩, e.st.top, e.st.tb⟩, by simp [e.len], fun j d h => ?_, fun j ds h => ?_, fun j a h => ?_, fun j k a h1 h2 => ?_, fun j a h => have q := set_adr (by intro _ z; cases z) h; e.sa j a q.2⟩
      · obtain ⟨o, y, t⟩ := e.w0.tr a h
        rw [z] at y
        exact h0.no y t
      · by_cases hj : j = i
        · subst hj
          rw [List.getElem?_set_self hl] at h
          cases h
          exact ⟨.ref p, h1, .lst h2 (fun z => z.2 rfl) (r.mono lw)⟩
        · rw [List.getElem?_set_ne (Ne.symm hj)] at h
          obtain ⟨v, h3, h4⟩ := e.sl j d h
          exact ⟨v, h3, h4.mono lw⟩
      · by_cases hj : j = i
        · subst hj
          rw [List.getElem?_set_self hl] at h
          cases h
        · rw [List.getElem?_set_ne (Ne.symm hj)] at h
          obtain ⟨a, us, h3, h4, h5, h6⟩ := e.so j ds h
          exact ⟨a, us, by show (if j = i then none else own j) = some a; rw [if_neg hj]; exact h3, h4, h5, h6.mono lw⟩
      · have h : (if j = i then none else own j) = some a := h
        by_cases hj : j = i
        · rw [if_pos hj] at h; cases h
        · rw [if_neg hj] at h
          obtain ⟨h3, h4, h5⟩ := e.oB j a h
          exact ⟨⟨h3, fun z => hj (e.oi j i a h (by rw [z]; exact o1))⟩, h4, h5⟩
      · have h1 : (if j = i then none else own j) = some a := h1
        have h2 : (if k = i then none else own k) = some a := h2
        by_cases hj : j = i
        · rw [if_pos hj] at h1; cases h1
        · by_cases hk : k = i
          · rw [if_pos hk] at h2; cases h2
          · rw [if_neg hj] at h1; rw [if_neg hk] at h2; exact e.oi j k a h1 h2
/-- a new list of the frame's own -/
theorem Ev.newOwn {G : Gx} {W0 W : Wd} {H0 H : Hp} {S : Store} {σ : L2.St} {ρ : Env} {own : Nat → Option Addr} {i : Nat} {p : Addr} {vs : List V} {ds : List D} (e : Ev G W0 H0 W H S σ ρ own) (hp : H p = none) (r : RpA G W H vs ds) :
    ∃ own', Lw W H (W.add p) (upd H p (.lst vs)) ∧ Ev G W0 H0 (W.add p) (upd H p (.lst vs)) S (σ.set i (some (.ref p))) (ρ.set i (.own ds)) own' := by
  have l := le_add (o := .lst vs) (W := W) hp
  have lw := l.lw e.wk
  have e1 := e.mono l (ok_add e.wk hp) (st_add e.wk e.st hp)
  have nb := e.wk.free hp
  have z0 : Nw H0 p := fun o q t => by
    rcases e.le.kp p o q t with ⟨n, y⟩ | y
    · exact absurd (e.wk.rg n p (e.le.ph n p y)) nb
    · rw [hp] at y; cases y
  refine ⟨fun j => if j = i then some p else own j, lw, e1.w0, e1.wk, e1.le, e1.st, by simp [e1.len], fun j d h => ?_, fun j xs h => ?_, fun j a h => ?_, fun j k a h1 h2 => ?_, fun j a h => have q := set_adr (by intro _ z; cases z) h; by rw [List.getElem?_set_ne (Ne.symm q.1)]; exact e.sa j a q.2⟩
  · by_cases hj : j = i
    · subst hj
      have hl : j < ρ.length := by
        have := (List.getElem?_eq_some_iff.mp h).1
        simpa using this
      rw [List.getElem?_set_self hl] at h
      cases h
    · rw [List.getElem?_set_ne (Ne.symm hj)] at h
      obtain ⟨v, h1, h2⟩ := e1.sl j d h
      exact ⟨v, by rw [List.getElem?_set_ne (Ne.symm hj)]; exact h1, h2⟩
  · by_cases hj : j = i
    · subst hj
      have hl : j < ρ.length := by
        have := (List.getElem?_eq_some_iff.mp h).1
        simpa using this
      rw [List.getElem?_set_self hl] at h
      cases h
      exact ⟨p, vs, if_pos rfl, List.getElem?_set_self (by rw [e1.len]; exact hl), upd_same, r.mono lw⟩
    · rw [List.getElem?_set_ne (Ne.symm hj)] at h
      obtain ⟨a, us, h3, h4, h5, h6⟩ := e1.so j xs h
      exact ⟨a, us, by show (if j = i then some p else own j) = some a; rw [if_neg hj]; exact h3, by rw [List.getElem?_set_ne (Ne.symm hj)]; exact h4, h5, h6⟩
  · have h : (if j = i then some p else own j) = some a := h
    by_cases hj : j = i
    · rw [if_pos hj] at h; cases h
      exact ⟨.inr rfl, z0, fun n q => nb (e.wk.rg n p q)⟩
    · rw [if_neg hj] at h; exact e1.oB j a h
  · have h1 : (if j = i then some p else own j) = some a := h1
    have h2 : (if k = i then some p else own k) = some a := h2
    by_cases hj : j = i
    · rw [if_pos hj] at h1; cases h1
      by_cases hk : k = i
      · rw [hj, hk]
      · rw [if_neg hk] at h2
        exact absurd (e.oB k p h2).1 nb
    · rw [if_neg hj] at h1
      by_cases hk : k = i
      · rw [if_pos hk] at h2; cases h2
        exact absurd (e.oB j p h1).1 nb
      · rw [if_neg hk] at h2; exact e.oi j k a h1 h2
/-- .. is changed -/
theorem Ev.putOwn {G : Gx} {W0 W : Wd} {H0 H : Hp} {S : Store} {σ : L2.St} {ρ : Env} {own : Nat → Option Addr} {i : Nat} {xs ds : List D} (e : Ev G W0 H0 W H S σ ρ own) (q : ρ[i]? = some (.own xs)) :
    ∃ p vs, σ[i]? = some (some (.ref p)) ∧ H p = some (.lst vs) ∧ RpA G W H vs xs ∧ ∀ us, RpA G W H us ds → Lw W H W (upd H p (.lst us)) ∧ Ev G W0 H0 W (upd H p (.lst us)) S σ (ρ.set i (.own ds)) own := by
  obtain ⟨p, vs, o1, h1, h2, r⟩ := e.so i xs q
  obtain ⟨hB, h0, hn⟩ := e.oB i p o1
  refine ⟨p, vs, h1, h2, r, fun us ru => ?_⟩
  have lw : Lw W H W (upd H p (.lst us)) := ⟨fun _ _ h => h, fun _ h => .inl h, fun b u h _ nb => by rw [upd_ne (fun z => nb (by rw [z]; exact hB))]; exact h⟩
  have hl : i < ρ.length := (List.getElem?_eq_some_iff.mp q).1
  refine ⟨lw, e.w0, ⟨fun a h => ?_, e.wk.rg, e.wk.ij⟩, ⟨e.le.ph, e.le.ps, e.le.Bm, e.le.Bn, fun b u h tu => ?_⟩, ⟨fun n c h => ?_, e.st.top, Tabs.put e.st.tb h2 (by intro _ z; cases z) code_lst⟩, by simp [e.len], fun j d h => ?_, fun j ys h => ?_, e.oB, e.oi, fun j a h => have q := set_adr (by intro _ z; cases z) h; e.sa j a q.2⟩
  · by_cases z : a = p
    · exact ⟨_, by rw [z, upd_same], by intro _ z; cases z⟩
    · obtain ⟨u, y, tu⟩ := e.wk.tr a h
      exact ⟨u, by rw [upd_ne z]; exact y, tu⟩
  · rcases e.le.kp b u h tu with z | z
    · exact .inl z
    · refine .inr ?_
      rw [upd_ne (fun y => by rw [y] at h; exact h0.no h tu)]
      exact z
  · obtain ⟨a, h3, h4⟩ := e.st.at_ n c h
    exact ⟨a, h3, h4.same lw fun u y => by rw [upd_ne (fun z => hn n (by rw [← z]; exact h3))]; exact y⟩
  · have hj : j ≠ i := fun z => by
      subst z
      rw [List.getElem?_set_self hl] at h
      cases h
    rw [List.getElem?_set_ne (Ne.symm hj)] at h
    obtain ⟨v, h3, h4⟩ := e.sl j d h
    exact ⟨v, h3, h4.mono lw⟩
  · by_cases hj : j = i
    · subst hj
      rw [List.getElem?_set_self hl] at h
      cases h
      exact ⟨p, us, o1, h1, upd_same, ru.mono lw⟩
    · rw [List.getElem?_set_ne (Ne.symm hj)] at h
      obtain ⟨a, ws, h3, h4, h5, h6⟩ := e.so j ys h
      exact ⟨a, ws, h3, h4, by rw [upd_ne (fun z => hj (e.oi j i a h3 (by rw [z]; exact o1)))]; exact h5, h6.mono lw⟩
section
variable {X : Cx} {cl : Cls_} {E : WX} {e : Expr} {es : List Expr} {fe : Env → M D} {fs : Env → M (List D)} {gs : Sm} {sts : List Stmt} {pos tpos : Pos}
theorem dss_frz (i : Nat) (h : DSs X cl E sts gs) : DSs X cl E sts (cFrz i gs) := by
  refine pss_imp h fun Dn σ H ⟨W0, H0, W, S, ρ, own, ev, h⟩ => ?_
  obtain ⟨W', own', lw, e'⟩ := ev.freeze (i := i)
  exact ⟨W0, H0, W', S, _, own', e', PoS.step lw h⟩
theorem ds_setOwn (i : Nat) {x : Str} {pos' : Pos} (hN : X.N.Nodup) (hs : DA X cl E es fs) (hi : X.N[i]? = some x := by rfl) (hx : Loc X.env.scope x := by first | exact Or.inl rfl | exact Or.inr rfl) (hsw : swapsWith (.List es tpos) (some (.Name x pos')) pos.line X.env = pure false := by rfl) (hf : X.fn x = true ∨ X.env.scope.names.lookup x = some .local := by first | exact .inl rfl | exact .inr rfl) :
    DS X cl E (.Assign [.Name x pos'] (.List es tpos) pos) (cSetOwn i fs) := by
  refine ps_imp (ps_set (i := i) hN hi hx (pe_lst hs) hsw hf) fun Dn σ H ⟨W0, H0, W, S, ρ, own, ev, h⟩ => ?_
  refine ⟨W0, H0, W, S, ρ, own, ev, (PoS.onE ev h).imp fun ds S1 W1 H1 l1 w1 s1 h1 vs r => ?_⟩
  by_cases c : ds.length ≤ 16777216
  · rw [if_pos c] at h1
    refine ⟨by rw [r.length]; exact isline c, fun p hp => ?_⟩
    obtain ⟨own', lw, e'⟩ := (ev.mono l1 w1 s1).newOwn (i := i) hp r
    exact h1 _ _ _ _ lw e'
  · rw [if_neg c] at h1; exact h1.elim
theorem ds_app (i : Nat) (hp : PE X e (tBM X.K "list" rAppend (tVar i) (tCons (tE ⟨X.K, cl⟩ E fe) tNil))) (hs : swapsWith e none tpos.line X.env = pure false := by rfl) : DS X cl E (.Expr e tpos) (cApp i fe) := by
  refine ps_imp (ps_expr hp hs) fun Dn σ H ⟨W0, H0, W, S, ρ, own, ev, h⟩ => ?_
  have h : PoS ⟨X.K, cl⟩ E W0 H0 W H (cApp i fe ρ S) (wF ⟨X.K, cl⟩ Dn) := h
  unfold cApp at h
  cases q : ρ[i]? with
  | none => rw [q] at h; exact h.elim
  | some sl =>
    rw [q] at h
    cases sl with
    | un => exact h.elim
    | val d => exact h.elim
    | adr _ => exact h.elim
    | own xs =>
      obtain ⟨p, vs, o1, o2, o3, _⟩ := ev.putOwn (ds := xs) q
      refine ⟨.ref p, o1, .inl ⟨rfl, vs, SqL.of o2⟩, W0, H0, W, S, ρ, own, ev, (PoS.onE ev h).imp fun d S1 W1 H1 l1 w1 s1 h1 v rv => ?_⟩
      have e1 := ev.mono l1 w1 s1
      obtain ⟨p', us, o1', o4, o5, o6⟩ := e1.putOwn (ds := xs ++ [d]) q
      rw [o1] at o1'; cases o1'
      by_cases c : xs.length < 16777216
      · rw [if_pos c] at h1
        refine ⟨p, us, v, rfl, rfl, o4, by rw [o5.length, sizeLine_eq]; exact c, ?_⟩
        obtain ⟨lw, e2⟩ := o6 (us ++ [v]) (o5.app (.cons rv .nil))
        exact h1 _ _ _ _ lw e2
      · rw [if_neg c] at h1; exact h1.elim
end
end DN
/-! DN7: pairs of names at once, texts' methods, repr, {} and other small words; a def as a whole. -/
namespace DN
open PySem PySem.Spec PyProof.Rows L2

/-! ### a, b = x, y -/
def cPar (i j : Nat) (fs : Env → M (List D)) : Sm := fun ρ S => onE (fs ρ S) ρ fun ds S' => match ds with
  | [x, y] => .go .nx ((ρ.set i (.val x)).set j (.val y)) S'
  | _ => .bad
section
variable {X : Cx} {cl : Cls_} {E : WX} {a b e o : Expr} {fe fo : Env → M D} {fs : Env → M (List D)} {pos : Pos}
theorem ds_par (i j : Nat) {x y : Str} {px py pt : Pos} {kt k2 pt2} (hc : X.calm = true) (hN : X.N.Nodup) (ha : DA X cl E [a, b] fs) (hw : swappedStores [.Tuple [.Name x px, .Name y py] kt pt] (.Tuple [a, b] k2 pt2) X.env = pure (some [x, y]) := by rfl)
    (hi : X.N[i]? = some x := by rfl) (hj : X.N[j]? = some y := by rfl) (hij : i ≠ j := by decide) (hx : X.env.scope.names.lookup x = some .local := by rfl) (hy : X.env.scope.names.lookup y = some .local := by rfl)
    (hs : swapsWithSole [.Tuple [.Name x px, .Name y py] kt pt] (.Tuple [a, b] k2 pt2) pos.line X.env = pure false := by rfl) :
    DS X cl E (.Assign [.Tuple [.Name x px, .Name y py] kt pt] (.Tuple [a, b] k2 pt2) pos) (cPar i j fs) := by
  refine ps_imp (ps_par hc hN hi hj hij hx hy ha hw hs) fun Dn σ H ⟨W0, H0, W, S, ρ, own, ev, h⟩ => ?_
  refine ⟨W0, H0, W, S, ρ, own, ev, (PoS.onE ev h).imp fun ds S1 W1 H1 l1 w1 s1 h1 vs r => ?_⟩
  match ds, h1 with
  | [dx, dy], h1 =>
    obtain ⟨v, u, rfl, rv, ru⟩ := r.inv2
    exact ⟨v, u, rfl, h1 _ _ _ _ Lw.refl (((ev.mono l1 w1 s1).set rv).set ru)⟩

/-! ### texts -/
def strsD : List D → Option (List Str)
  | [] => some []
  | .str b :: ds => (strsD ds).map (b :: ·)
  | _ :: _ => none
theorem RpA.strs {G : Gx} {W : Wd} {H : Hp} : ∀ {ds : List D} {vs : List V} {bs : List Str}, RpA G W H vs ds → strsD ds = some bs → vs = bs.map V.str
  | [], _, _, .nil, e => by simp [strsD] at e; subst e; rfl
  | d :: ds, _, bs, .cons r t, e => by
    cases d with
    | str b =>
      simp only [strsD, Option.map_eq_some_iff] at e
      obtain ⟨bs', e1, e2⟩ := e
      subst e2
      cases r
      rw [RpA.strs t e1]; rfl
    | _ => simp [strsD] at e
def joinB (a : Str) (ys : List Str) : M D := if (ys.map (·.length)).sum + ys.length * a.length ≤ 16777216 then M.pure (.str (Txt.join a ys)) else M.bad
def gJoin (a : Str) : D → M D
  | .lst xs => match strsD xs with
    | some ys => joinB a ys
    | none => M.bad
  | .tup xs => match strsD xs with
    | some ys => joinB a ys
    | none => M.bad
  | _ => M.bad
/-- methods of a text -/
def cM0 (g : Str → M D) (fo : Env → M D) : Env → M D := fun ρ => do
  let x ← fo ρ
  match x with
  | .str a => g a
  | _ => M.bad
def cM1 (g : Str → D → M D) (fo fe : Env → M D) : Env → M D := fun ρ => do
  let x ← fo ρ
  match x with
  | .str a => do
    let y ← fe ρ
    g a y
  | _ => M.bad
theorem tM1_of {G : Gx} {r : V → List V → Hp → VK → Prop} {g : Str → D → M D} {σ : L2.St} {H : Hp} {Q : VK} (h : tE G E (cM1 g fo fe) σ H Q)
    (hg : ∀ W H S a y dy, WOk W H → StOk G W H S → Rp G W H y dy → Po G E σ W H (g a dy S) (RV G Q) → r (.str a) [y] H Q) : tM1 r (tE G E fo) (tE G E fe) σ H Q := by
  obtain ⟨W0, H0, W, S, ρ, own, ev, h⟩ := h
  refine ⟨W0, H0, W, S, ρ, own, ev, (Po.bind ev.wk h).imp fun da S1 W1 H1 l1 w1 s1 h1 v rv => ?_⟩
  cases da with
  | str a =>
    cases rv
    exact ⟨⟨a, rfl⟩, W0, H0, W1, S1, ρ, own, ev.mono l1 w1 s1, (Po.bind w1 h1).imp fun db S2 W2 H2 l2 w2 s2 h2 u ru => hg W2 H2 S2 a u db w2 s2 ru h2⟩
  | _ => exact h1.elim
theorem tM0_of {G : Gx} {r : V → List V → Hp → VK → Prop} {g : Str → M D} {σ : L2.St} {H : Hp} {Q : VK} (h : tE G E (cM0 g fo) σ H Q)
    (hg : ∀ W H S a, WOk W H → StOk G W H S → Po G E σ W H (g a S) (RV G Q) → r (.str a) [] H Q) : tM0 r (tE G E fo) σ H Q := by
  refine tE_bind h fun W0 H0 W1 H1 S1 ρ own v d ev rv hh => ?_
  cases d with
  | str a => cases rv; exact ⟨⟨a, rfl⟩, hg W1 H1 S1 a ev.wk ev.st hh⟩
  | _ => exact hh.elim
theorem de_join {apos : Pos} (ho : DE X cl E o fo) (he : DE X cl E e fe) (hs : starEach [e] X.env = [(false, eval e X.env)] := by rfl) (hbase : attributeBase o "join" X.env (eval o X.env) = eval o X.env := by rfl) (hline : (apos.endLine == pos.line) = true := by rfl) :
    DE X cl E (.Call (.Attribute o "join" apos) [e] [] pos) (cM1 gJoin fo fe) := by
  refine pe_imp (pe_join ho he hs hbase hline) fun σ H Q h => tM1_of (G := ⟨X.K, cl⟩) h fun W2 H2 S2 a u db w2 s2 ru h2 => ?_
  cases db with
  | lst xs =>
    unfold gJoin at h2
    dsimp only at h2
    cases q : strsD xs with
    | none => rw [q] at h2; exact h2.elim
    | some ys =>
      rw [q] at h2
      obtain ⟨c, h2⟩ := po_if h2
      cases ru with
      | lst hl _ rl =>
        have e := rl.strs q
        subst e
        exact ⟨a, _, ys, rfl, rfl, .inl (SqL.of hl), c, Po.val w2 s2 h2 (.str _)⟩
  | tup xs =>
    unfold gJoin at h2
    dsimp only at h2
    cases q : strsD xs with
    | none => rw [q] at h2; exact h2.elim
    | some ys =>
      rw [q] at h2
      obtain ⟨c, h2⟩ := po_if h2
      cases ru with
      | tup hl rl =>
        have e := rl.strs q
        subst e
        exact ⟨a, _, ys, rfl, rfl, .inr hl.sq, c, Po.val w2 s2 h2 (.str _)⟩
  | _ => exact h2.elim
def gUpper (a : Str) : M D := if a.length ≤ 5592405 then M.pure (.str (Txt.upper a)) else M.bad
theorem de_upper {apos : Pos} (ho : DE X cl E o fo) (hbase : attributeBase o "upper" X.env (eval o X.env) = eval o X.env := by rfl) (hline : (apos.endLine == pos.line) = true := by rfl) : DE X cl E (.Call (.Attribute o "upper" apos) [] [] pos) (cM0 gUpper fo) :=
  pe_imp (pe_upper ho hbase hline) fun σ H Q h => tM0_of (G := ⟨X.K, cl⟩) h fun W H S a w s h => by
    obtain ⟨c, h⟩ := po_if h
    exact ⟨a, rfl, rfl, c, Po.val w s h (.str _)⟩
end

/-! ### repr of scalars -/
def gRepr : List D → M D
  | [.bl b] => M.pure (.str (if b then "True" else "False"))
  | [.non] => M.pure (.str "None")
  | [.int i] => if i.natAbs.log2 < 1920 then M.pure (.str (toString i)) else M.bad
  | _ => M.bad
section
variable {X : Cx} {cl : Cls_} {K : PySem.W.Frag}
def rRepr : List V → Hp → VK → Prop := fun xs H Q => (∃ b, xs = [.bl b] ∧ Q (.str (if b then "True" else "False")) H) ∨ (xs = [.non] ∧ Q (.str "None") H) ∨ ∃ i, xs = [.int i] ∧ i.natAbs.log2 < 1920 ∧ Q (.str (toString i)) H
theorem call_repr : CallR X (.builtin "repr") rRepr := by
  rintro pins s σ H xs us Q I r (⟨b, rfl, q⟩ | ⟨rfl, q⟩ | ⟨i, rfl, hz, q⟩)
  · obtain ⟨u, rfl, r1⟩ := vals1 r
    cases r1
    exact PySem.P.repr_of_bool ⟨.str _, H, I.tok _, ⟨_, rfl⟩, q⟩
  · obtain ⟨u, rfl, r1⟩ := vals1 r
    cases r1
    exact PySem.P.repr_of_none ⟨.str _, H, I.tok _, ⟨_, rfl⟩, q⟩
  · obtain ⟨u, rfl, t, rfl⟩ := vals1 r
    exact PySem.P.repr_of_int hz ⟨.str _, H, I.tok _, ⟨_, rfl⟩, q⟩
theorem cd_repr : CallD K cl rRepr gRepr := by
  intro E σ W H S vs ds Q w s r h
  match ds, h with
  | [.bl b], h =>
    obtain ⟨v, rfl, rv⟩ := r.inv1
    cases rv
    exact .inl ⟨b, rfl, Po.val w s h (.str _)⟩
  | [.non], h =>
    obtain ⟨v, rfl, rv⟩ := r.inv1
    cases rv
    exact .inr (.inl ⟨rfl, Po.val w s h (.str _)⟩)
  | [.int i], h =>
    obtain ⟨v, rfl, rv⟩ := r.inv1
    cases rv
    obtain ⟨c, h⟩ := po_if h
    exact .inr (.inr ⟨i, rfl, c, Po.val w s h (.str _)⟩)
/-! ### {} -/
theorem de_dnew {E : WX} {pos : Pos} : DE X cl E (.Dict [] [] pos) (cC (.dct [])) := by
  refine pe_imp pe_dnewK fun σ H Q ⟨W0, H0, W, S, ρ, own, ev, h⟩ p hp => ?_
  exact Po.new ev.wk ev.st h hp (.dct upd_same (ev.wk.free hp) .nil)
end

/-! ### a def as a whole -/
/-- the def x of the module, as the statement st, with the parameters ps -/
structure Fd (K : PySem.W.Frag) (mg : Str → Option Value) (x qual : Str) (st : Stmt) (ps : List Str) : Prop where
  ex : ∃ f fd, Fun K x qual st f fd ∧ mg x = some (.ref f) ∧ PySem.W.keepIn K (.ref f) = true ∧ Binds K fd ps []
/-- the def x of the module is worth F -/
structure Cal (P : Program) (w : World) (K : PySem.W.Frag) (mg : Str → Option Value) (base : Heap) (cl : Cls_) (x : Str) (k : Nat) (ps : List Str) (F : List D → M D) : Prop where
  ex : ∃ f fd, FnD P w K mg base cl k f fd ps F ∧ mg x = some (.ref f) ∧ PySem.W.keepIn K (.ref f) = true ∧ Binds K fd ps []
section
variable {P : Program} {w : World} {K : PySem.W.Frag} {mg : Str → Option Value} {base : Heap} {cl : Cls_}
theorem Fd.cal {x qual : Str} {st : Stmt} {N ps : List Str} {k : Nat} {body : Sm} (F : Fd K mg x qual st ps) (S : FnScope N ps (defScope st))
    (hb : ∀ (f : Addr) (cdv : Value) (A : Around) (outer : List PySem.Env) (s : Shared) (H : Hp) (E : XK), Room k (A.deeper (envOfC qual (defScope st) s.heap.objs.size f cdv)) → DSs (cxD P w K mg base N qual st f cdv A outer s H E) cl (fun c d _ H => E c d H) (defBody st) body) :
    Cal P w K mg base cl x (k + 1) ps (runF ps.length N.length body) := by
  obtain ⟨f, fd, F, m, kp, b⟩ := F.ex
  exact ⟨f, fd, fn_D F S fun cdv A outer s H E hr => hb f cdv A outer s H E hr, m, kp, b⟩
/-- .. by another word for it -/
theorem Cal.imp {x : Str} {k : Nat} {ps : List Str} {F F' : List D → M D} (C : Cal P w K mg base cl x k ps F) (h : ∀ ds S, ds.length = ps.length → F' ds S ≠ .bad → F ds S = F' ds S) : Cal P w K mg base cl x k ps F' := by
  obtain ⟨f, fd, G, m, kp, b⟩ := C.ex
  refine ⟨f, fd, G.imp fun vs H Q E ⟨W, S, ds, w0, s0, r, e, q⟩ => ⟨W, S, ds, w0, s0, r, e, ?_⟩, m, kp, b⟩
  rw [h ds S e (fun z => by rw [z] at q; exact q)]
  exact q
theorem de_cal {X : Cx} {cl : Cls_} {E : WX} {k n : Nat} {ps : List Str} {x : Str} {p pos : Pos} {e : Expr} {es : List Expr} {fs : Env → M (List D)} {F : List D → M D} (C : Cal X.prog X.w X.K X.mg X.base cl x k ps F) (hr : Room k X.A) (tk : Takes X E) (ha : DA X cl E (e :: es) fs) (hn : ps.length = n := by rfl) (hg : Gl X x := by rfl) (hdb : (x == ("__debug__" : Str)) = false := by decide)
    (he : starEach (e :: es) X.env = (false, eval e X.env) :: starEach es X.env := by rfl) (hpl : (backTo pos (starEach es X.env)).any (·.1) = false := by rfl) : DE X cl E (.Call (.Name x p) (e :: es) [] pos) (cCall n F fs) := by
  obtain ⟨f, fd, G, m, kp, b⟩ := C.ex
  subst hn
  exact de_call G hr m kp b tk ha hg hdb he hpl
end
end DN
/-! DN8: the end of a law row. -/
namespace DN
open PySem PySem.Spec PyProof.Rows L2

theorem law_sp {K : PySem.W.Frag} {cl : Cls_} {F : List D → M D} {n : Nat} (noT : cl.T = []) (main : ∀ ns : List Int, ns.length ≤ n → ∃ S', F [.scr ns] [] = .ok (.bl true) S') {H : Hp} {a : Addr} {ns : List Int} (hl : ns.length ≤ n) (hS : SqL K H a (ns.map V.int)) :
    spD ⟨K, cl⟩ 1 F [.ref a] H (fun v _ => v = .bl true) fun _ _ _ => False := by
  obtain ⟨S', e⟩ := main ns hl
  refine ⟨⟨fun _ => none, fun _ => False⟩, [], [.scr ns], ⟨fun _ h => h.elim, fun _ _ h => (nomatch h), fun _ _ _ h => (nomatch h)⟩, ⟨fun _ _ h => (nomatch h), fun _ _ => rfl, fun p hp => by rw [show (Gx.mk K cl).cl.T = [] from noT] at hp; cases hp⟩, .cons (.scr ?_) .nil, rfl, ?_⟩
  · rcases hS with h | h
    · exact .inl ⟨h, fun z => z⟩
    · exact .inr h
  · rw [e]
    intro W' H' l w s v rv
    cases rv; rfl
theorem no_cx {P : Program} {w : World} {H : Hp} {s : Shared} {e : Value} {s' : Shared} (h : L2.CX P w [] H s (fun _ _ _ => False) e s') : False := by
  obtain ⟨_, _, _, _, _, _, _, _, _, _, _, _, z⟩ := h
  exact z
theorem walk_D {l : PySem.W.OpenLaw} {n k : Nat} {q : Program} {loose : List Str} {XP : (Str → Option Value) → Heap → Prop} {YP : World → Heap → Prop} {d : DefRec} {K : Params → PySem.W.Frag} {cl : PySem.W.Frag → Cls_} {F : List D → M D} (hn : l.most = some n) (hn2 : n ≤ sizeLine) (hdf : d.params.defaults = []) (hr : Room k callerA)
    (noT : ∀ K, (cl K).T = []) (hY : ∀ (w : World) (h : Heap), YP w h → (K w.params).In h) (main : ∀ ns : List Int, ns.length ≤ n → ∃ S', F [.scr ns] [] = .ok (.bl true) S')
    (FF : ∀ (w : World) (mg : Str → Option Value) (fa : Addr) (h : Heap), (K w.params).In h → h.Ns mainGlobals mg → mg d.name = some (.ref fa) →
      ∃ fd : FuncData, (∀ (s : Shared) (u : Value), BindsTo s fd ⟨[u], []⟩ [("script", u)]) ∧ ∀ base : Heap, (K w.params).In base → base.Ns mainGlobals mg → FnD l.prog w (K w.params) mg base (cl (K w.params)) k fa fd ["script"] F) :
    PySem.W.WalkO q loose XP YP l.row.toRowW d [] (fun f vs => PySem.call f vs) :=
  L2.walk_of (n := n) (k := k) (x := "script") (K := K) (CX := fun w => L2.CX l.prog w) (sp := fun w => spD ⟨K w.params, cl (K w.params)⟩ 1 F) hn hn2 hdf hr hY FF (fun w H a ns hl hO hS => law_sp (noT _) main hl hS) fun w H s e s' h => no_cx h
/-- the classes by their names in the module -/
def clN (K : PySem.W.Frag) : Str → Option Addr := fun c => match PySem.W.nsIn K mainGlobals c with
  | some (some (.ref a)) => some a
  | _ => none
def clK (K : PySem.W.Frag) : Cls_ := ⟨clN K, []⟩
end DN
/-! DR: what is not looked at (bad), turned sequences, pairs with a list of one's own. -/
namespace DN
open PySem PySem.Spec PyProof.Rows L2
def cBad {α : Type} : Env → M α := fun _ => M.bad
def cBadS : Sm := fun _ _ => .bad
section
variable {X : Cx} {cl : Cls_} {E : WX} {e : Expr} {st : Stmt}
theorem de_bad : DE X cl E e cBad := ⟨fun _ _ _ _ _ _ ⟨_, _, _, _, _, _, _, h⟩ => h.elim⟩
theorem ds_bad : DS X cl E st cBadS := ⟨fun _ _ _ _ _ _ ⟨_, _, _, _, _, _, _, h⟩ => h.elim⟩
end

/-! ### t[::-1] -/
section
open PySem.Builtin.Slice
theorem rv_adjust (n : Nat) : sliceAdjust none none (-1) (n : Int) = ((n : Int) - 1, -1) := by
  unfold sliceAdjust
  rfl
theorem rv_places (n : Nat) : slicePlaces ((n : Int) - 1) (-1) (-1) = n := by
  unfold slicePlaces
  have a : ¬ (-1 : Int) > 0 := by omega
  rw [if_neg a]
  by_cases hn : n = 0
  · subst hn; rfl
  · have b : ((n : Int) - 1) > -1 := by omega
    rw [if_pos b, show (- -1 : Int) = 1 by decide, Int.ediv_one]
    omega
theorem fm_congr {α β : Type} {f g : α → Option β} : ∀ {xs : List α}, (∀ x ∈ xs, f x = g x) → xs.filterMap f = xs.filterMap g
  | [], _ => rfl
  | x :: xs, h => by
    have a := h x List.mem_cons_self
    have b := fm_congr (xs := xs) fun y hy => h y (List.mem_cons_of_mem _ hy)
    rw [List.filterMap_cons, List.filterMap_cons, a, b]
theorem rv_list (xs : Array Value) : ((List.range xs.size).filterMap fun (m : Nat) => xs[(((xs.size : Nat) : Int) - 1 + (m : Int) * -1).toNat]?) = xs.toList.reverse := by
  have e : ((List.range xs.size).filterMap fun (m : Nat) => xs[(((xs.size : Nat) : Int) - 1 + (m : Int) * -1).toNat]?) = (List.range xs.toList.reverse.toArray.size).filterMap fun m => xs.toList.reverse.toArray[m]? := by
    have f : xs.toList.reverse.toArray.size = xs.size := by simp
    rw [f]
    refine fm_congr fun m hm => ?_
    have hm := List.mem_range.mp hm
    have q : (((xs.size : Nat) : Int) - 1 + (m : Int) * -1).toNat = xs.toList.length - 1 - m := by rw [Array.length_toList]; omega
    rw [q, ← Array.getElem?_toList]
    have g : xs.toList.reverse.toArray[m]? = xs.toList.reverse[m]? := by simp
    rw [g, List.getElem?_reverse (by rw [Array.length_toList]; exact hm)]
  rw [e, PySem.W.krv_all]
variable {prog : Program} {w : World} {A : Around} {XE : Value → Shared → Prop} {s : Shared}
theorem rv_applied {sl : Addr} {vs : Value} {n : Nat} {Q : Int × Int × Nat → Shared → Prop} (hs : s.heap.IsSliceOf sl .none .none vs) (ps : IsPart vs (some (-1))) (h : Q ((n : Int) - 1, -1, n) s) :
    wpAny (model prog w) A (sliceApplied (.ref sl) (pure (n : Int))) Q XE s := by
  obtain ⟨o, ho, hc, hd⟩ := id hs
  unfold sliceApplied sliceFields
  refine wpAny_bind (wpAny_bind (wpAny_field ho hd (x := .none) rfl ?_))
  refine wpAny_bind (wpAny_field ho hd (x := .none) rfl (wpAny_bind (wpAny_field ho hd (x := vs) rfl (wpAny_pure ?_))))
  refine wpAny_bind (HT.slicePart_ ps ?_)
  show wpAny _ _ (if ((-1 : Int) == 0) = true then _ else _) _ _ s
  rw [if_neg (by decide)]
  refine wpAny_bind (HT.slicePart_ .none ?_)
  refine wpAny_bind (HT.slicePart_ .none ?_)
  refine wpAny_bind (wpAny_pure ?_)
  show wpAny _ _ (match sliceAdjust none none (-1) (n : Int) with | (lo, hi) => pure (lo, (-1 : Int), slicePlaces lo hi (-1))) _ _ s
  rw [rv_adjust]
  show wpAny _ _ (pure ((n : Int) - 1, (-1 : Int), slicePlaces ((n : Int) - 1) (-1) (-1))) _ _ s
  rw [rv_places]
  exact wpAny_pure h
theorem rv_tuple {t sl : Addr} {items : Array Value} {vs : Value} {Q : Value → Shared → Prop} (ht : IsTup s.heap t items) (hs : s.heap.IsSliceOf sl .none .none vs) (ps : IsPart vs (some (-1)))
    (h : Q (.ref s.heap.objs.size) { s with heap := s.heap.push { cls := .type "tuple", data := .seq items.toList.reverse.toArray } }) (hsz : items.size ≤ sizeLine) : wpAny (model prog w) A (getItem (.ref t) (.ref sl)) Q XE s := by
  have fit : sizeOk (.seq items.toList.reverse.toArray) := by
    show items.toList.reverse.toArray.size ≤ sizeLine
    rw [List.size_toArray, List.length_reverse, Array.length_toList]
    exact hsz
  obtain ⟨o, ho, hc, hd⟩ := id hs
  have hT : s.TypeIs (.ref sl) "slice" := ⟨o, ho, hc⟩
  unfold getItem
  try with_reducible refine wpAny_holding ?_
  first | refine wpAny_bind (wpAny_pure ?_) | skip
  refine wpAny_bind (wpAny_sequenceKey ht.typeIs (by decide) ?_)
  refine wpAny_bind (wpAny_callSpecial?_slot (name := Str.ofString "__getitem__") ht.typeIs PyProof.Rows.slot_tuple_getitem (wpAny_call_entry PyProof.Rows.slot_tuple_getitem ht.typeIs entry_tuple_getitem ?_ (args_tuple_getitem _ _)))
  show wpAny _ _ (Builtin.Tuple.tupleItemsOf (.ref t) >>= _) _ _ s
  refine wpAny_bind (tupleItemsOf_ ht (wpAny_bind (wpAny_typeOf hT ?_)))
  rw [if_pos (by decide)]
  refine wpAny_bind (rv_applied hs ps ?_)
  have no : ¬ ((((items.size : Nat) : Int) - 1 == 0 && (-1 : Int) == 1 && items.size == items.size) = true) := by
    intro q
    rw [Bool.and_eq_true, Bool.and_eq_true] at q
    have := q.1.2
    revert this
    decide
  show wpAny _ _ (if (((items.size : Nat) : Int) - 1 == 0 && (-1 : Int) == 1 && items.size == items.size) = true then _ else _) _ _ s
  rw [if_neg no, rv_list]
  first
    | exact wpAny_bind (m := Builtin.Tuple.tupleExact _) (wpAny_newObj_type (wpAny_pure ⟨_, rfl, wpAny_pure h⟩) fit)
    | exact wpAny_bind (m := Builtin.Tuple.tupleExact _) (wpAny_newObj_type (wpAny_bind (wpAny_pure (wpAny_pure ⟨_, rfl, wpAny_pure h⟩))) fit)
    | exact wpAny_bind (wpAny_bind (m := Builtin.Tuple.tupleExact _) (wpAny_newObj_type (wpAny_pure (wpAny_pure ⟨_, rfl, wpAny_pure h⟩)) fit))
    | exact wpAny_bind (wpAny_bind (m := Builtin.Tuple.tupleExact _) (wpAny_newObj_type (wpAny_pure ⟨_, rfl, wpAny_pure h⟩) fit))
end
def tRevT (K : PySem.W.Frag) (te : TE) : TE := fun σ H Q => te σ H fun x H1 => ∃ a xs, x = .ref a ∧ ((SqL K H1 a xs ∧ ∀ p, H1 p = none → Q (.ref p) (upd H1 p (.lst xs.reverse))) ∨ (SqT K H1 a xs ∧ ∀ p, H1 p = none → Q (.ref p) (upd H1 p (.tup xs.reverse))))
section
variable {X : Cx}
theorem pe_revA {e : Expr} {te : TE} {k : Nat} {p1 p2 p3 pos : Pos} (he : PE X e te) : PE X (.Subscript e (.Slice none none (some (.UnaryOp .USub (.Constant (.int 1) k p1) p2)) p3) pos) (tRevT X.K te) := by
  refine ⟨fun pins s σ H Q I h => Subscript_ (thn (he.run pins s σ H _ I h) fun v s1 ⟨x, H1, I1, r1, a, xs, ex, q⟩ => ?_)⟩
  subst ex
  cases r1
  have hst : PO X (some (.UnaryOp .USub (.Constant (.int 1) k p1) p2)) (tPart (tUn (rU fun i => .int (-i)) (tC (.int 1)))) := po_some (pe_un un_neg pe_int)
  refine wpAny_Slice (thn (po_none.run pins s1 σ H1 (fun o K2 => o = none ∧ K2 = H1) I1 ⟨rfl, rfl⟩) fun vl s2 ⟨l, H2, I2, pl, el, e2⟩ => ?_)
  subst el e2
  refine thn (po_none.run pins s2 σ H2 (fun o K3 => o = none ∧ K3 = H2) I2 ⟨rfl, rfl⟩) fun vu s3 ⟨u, H3, I3, pu, eu, e3⟩ => ?_
  subst eu e3
  refine thn (hst.run pins s3 σ H3 (fun o K4 => o = some (-1) ∧ K4 = H3) I3 ⟨1, rfl, -1, rfl, rfl, rfl⟩) fun vs s4 ⟨o, H4, I4, ps, eo, e4⟩ => ?_
  subst eo e4
  have I5 : Inv X pins σ H4 { s4 with heap := s4.heap.push { cls := .type "slice", data := .fields #[vl, vu, vs] } } := I4.kept (t' := s4.toks) fun b ob q => Heap.get?_push_of_some _ q
  show wpAny (model X.prog X.w) X.A (subscriptTail e (.Slice none none (some (.UnaryOp .USub (.Constant (.int 1) k p1) p2)) p3) (.ref a) (.ref s4.heap.objs.size)) (EP X pins σ Q) X.xe { s4 with heap := s4.heap.push { cls := .type "slice", data := .fields #[vl, vu, vs] } }
  rcases q with ⟨hx, q⟩ | ⟨hx, q⟩
  · obtain ⟨its, r, ht, hz⟩ := I5.list hx
    have hlen := r.length
    refine tail_any (ops := [.ref a, .ref s4.heap.objs.size]) ht.isList.typeIs (PySem.slot_list_getitem.lookup) ?_ (by with_unfolding_all rfl)
    refine wpAny_getItem_list_slice ht.isList (Heap.IsSliceOf.new _ vl vu vs) pl pu ps (by decide) ?_ (by rw [List.size_toArray]; omega)
    rw [PySem.W.krv_pick]
    refine ⟨.ref _, _, I5.laid (t' := s4.toks) (o := .lst xs.reverse) (fun b ob z => Heap.get?_push_of_some _ z) (Nat.le_refl _) ?_, rfl, q _ (I5.hok.fresh (Nat.le_refl _))⟩
    exact ⟨by rw [List.length_reverse]; exact hz, _, 0, r.reverse, Heap.get?_push_size _ rfl⟩
  · obtain ⟨its, r, ht, hz⟩ := I5.tuple hx
    have hlen := r.length
    refine tail_any (ops := [.ref a, .ref s4.heap.objs.size]) ht.typeIs (PyProof.Rows.slot_tuple_getitem.lookup) ?_ (by with_unfolding_all rfl)
    cases pl
    cases pu
    refine rv_tuple ht (Heap.IsSliceOf.new _ .none .none vs) ps ?_ (by rw [List.size_toArray]; omega)
    refine ⟨.ref _, _, I5.laid (t' := s4.toks) (o := .tup xs.reverse) (fun b ob z => Heap.get?_push_of_some _ z) (Nat.le_refl _) ?_, rfl, q _ (I5.hok.fresh (Nat.le_refl _))⟩
    exact ⟨by rw [List.length_reverse]; exact hz, _, r.reverse, IsTup.new _ _⟩
end
def gRev : D → M D
  | .tup xs => M.pure (.tup xs.reverse)
  | .lst xs => M.pure (.lst xs.reverse)
  | _ => M.bad
section
variable {X : Cx} {cl : Cls_} {E : WX} {a : Expr} {fa : Env → M D}
theorem de_rev {k : Nat} {p1 p2 p3 pos : Pos} (ha : DE X cl E a fa) : DE X cl E (.Subscript a (.Slice none none (some (.UnaryOp .USub (.Constant (.int 1) k p1) p2)) p3) pos) (c1 gRev fa) := by
  refine pe_imp (pe_revA ha) fun σ H Q h => ?_
  refine tE_bind h fun W0 H0 W1 H1 S1 ρ own x dx ev rx h1 => ?_
  cases dx with
  | tup xs =>
    cases rx with
    | @tup p vs _ hp rp => exact ⟨p, vs, rfl, .inr ⟨hp.sq, fun q hq => Po.new ev.wk ev.st h1 hq (Rp.newTup ev.wk hq rp.rev)⟩⟩
  | lst xs =>
    cases rx with
    | @lst p vs _ hp _ rp => exact ⟨p, vs, rfl, .inl ⟨.inl (.inl hp), fun q hq => Po.new ev.wk ev.st h1 hq (Rp.newLst ev.wk hq rp.rev)⟩⟩
  | _ => exact h1.elim
end

/-! ### a, b = [..], e : a is a list of one's own -/
theorem Ev.ownAt {G : Gx} {W0 W : Wd} {H0 H : Hp} {S : Store} {σ : L2.St} {ρ : Env} {own : Nat → Option Addr} {i : Nat} {p : Addr} {vs : List V} {ds : List D} (e : Ev G W0 H0 W H S σ ρ own)
    (hB : W.B p) (z0 : Nw H0 p) (hn : ∀ n, W.phi n ≠ some p) (ho : ∀ j, own j ≠ some p) (hH : H p = some (.lst vs)) (r : RpA G W H vs ds) :
    Ev G W0 H0 W H S (σ.set i (some (.ref p))) (ρ.set i (.own ds)) (fun j => if j = i then some p else own j) := by
  refine ⟨e.w0, e.wk, e.le, e.st, by simp [e.len], fun j d h => ?_, fun j xs h => ?_, fun j a h => ?_, fun j k a h1 h2 => ?_, fun j a h => have q := set_adr (by intro _ z; cases z) h; by rw [List.getElem?_set_ne (Ne.symm q.1)]; exact e.sa j a q.2⟩
  · by_cases hj : j = i
    · subst hj
      have hl : j < ρ.length := by have := (List.getElem?_eq_some_iff.mp h).1; simpa using this
      rw [List.getElem?_set_self hl] at h
      cases h
    · rw [List.getElem?_set_ne (Ne.symm hj)] at h ⊢
      exact e.sl j d h
  · by_cases hj : j = i
    · subst hj
      have hl : j < ρ.length := by have := (List.getElem?_eq_some_iff.mp h).1; simpa using this
      rw [List.getElem?_set_self hl] at h
      cases h
      exact ⟨p, vs, if_pos rfl, List.getElem?_set_self (by rw [e.len]; exact hl), hH, r⟩
    · rw [List.getElem?_set_ne (Ne.symm hj)] at h
      obtain ⟨a, us, h3, h4, h5, h6⟩ := e.so j xs h
      exact ⟨a, us, (if_neg hj).trans h3, by rw [List.getElem?_set_ne (Ne.symm hj)]; exact h4, h5, h6⟩
  · have h : (if j = i then some p else own j) = some a := h
    by_cases hj : j = i
    · rw [if_pos hj] at h
      cases h
      exact ⟨hB, z0, hn⟩
    · rw [if_neg hj] at h
      exact e.oB j a h
  · have h1 : (if j = i then some p else own j) = some a := h1
    have h2 : (if k = i then some p else own k) = some a := h2
    by_cases hj : j = i <;> by_cases hk : k = i
    · rw [hj, hk]
    · rw [if_pos hj] at h1; rw [if_neg hk] at h2; cases h1; exact absurd h2 (ho k)
    · rw [if_neg hj] at h1; rw [if_pos hk] at h2; cases h2; exact absurd h1 (ho j)
    · rw [if_neg hj] at h1; rw [if_neg hk] at h2; exact e.oi j k a h1 h2
def cParO (i j : Nat) (fs : Env → M (List D)) (fe : Env → M D) : Sm := fun ρ S => onE (fs ρ S) ρ fun ds S1 => if ds.length ≤ 16777216 then onE (fe ρ S1) ρ fun d S2 => .go .nx ((ρ.set i (.own ds)).set j (.val d)) S2 else .bad
section
variable {X : Cx} {cl : Cls_} {E : WX} {es : List Expr} {b : Expr} {fs : Env → M (List D)} {fe : Env → M D} {pos : Pos}
theorem ds_parO (i j : Nat) {x y : Str} {px py pt lp : Pos} {kt k2 pt2} (hc : X.calm = true) (hN : X.N.Nodup) (hs : DA X cl E es fs) (he : DE X cl E b fe) (hw : swappedStores [.Tuple [.Name x px, .Name y py] kt pt] (.Tuple [.List es lp, b] k2 pt2) X.env = pure (some [x, y]) := by rfl)
    (hi : X.N[i]? = some x := by rfl) (hj : X.N[j]? = some y := by rfl) (hij : i ≠ j := by decide) (hx : X.env.scope.names.lookup x = some .local := by rfl) (hy : X.env.scope.names.lookup y = some .local := by rfl)
    (hss : swapsWithSole [.Tuple [.Name x px, .Name y py] kt pt] (.Tuple [.List es lp, b] k2 pt2) pos.line X.env = pure false := by rfl) (s1 : starEach [.List es lp, b] X.env = (false, eval (.List es lp) X.env) :: starEach [b] X.env := by rfl) (s2 : starEach [b] X.env = (false, eval b X.env) :: starEach [] X.env := by rfl) :
    DS X cl E (.Assign [.Tuple [.Name x px, .Name y py] kt pt] (.Tuple [.List es lp, b] k2 pt2) pos) (cParO i j fs fe) := by
  refine ps_imp (ps_par hc hN hi hj hij hx hy (pa_cons (pe_lst hs) (pa_cons he pa_nil s2) s1) hw hss) fun Dn σ H ⟨W0, H0, W, S, ρ, own, ev, h⟩ => ?_
  refine ⟨W0, H0, W, S, ρ, own, ev, (PoS.onE ev h).imp fun ds S1 W1 H1 l1 w1 s1 h1 vs r => ?_⟩
  by_cases c : ds.length ≤ 16777216
  · rw [if_pos c] at h1
    refine ⟨by rw [r.length]; exact isline c, fun p hp => ?_⟩
    have ev1 := ev.mono l1 w1 s1
    have lp := le_add (o := .lst vs) (W := W1) hp
    have ev2 := ev1.mono lp (ok_add w1 hp) (st_add w1 s1 hp)
    have nb := w1.free hp
    refine ⟨W0, H0, W1.add p, S1, ρ, own, ev2, (PoS.onE ev2 (PoS.step (lp.lw w1) h1)).imp fun d S2 W2 H2 l2 w2 s2 h2 v rv => ⟨.ref p, v, rfl, ?_⟩⟩
    have hn : ∀ n, W2.phi n ≠ some p := fun n q => by
      rcases l2.ps n p q with z | z
      · exact nb (w1.rg n p z)
      · exact z.no upd_same
    have hH : H2 p = some (.lst vs) := by
      rcases l2.kp p _ upd_same with ⟨n, z⟩ | z
      · exact absurd (w1.rg n p z) nb
      · exact z
    have z0 : Nw H0 p := fun o q t => by
      rcases ev1.le.kp p o q t with ⟨n, y⟩ | y
      · exact absurd (w1.rg n p (ev1.le.ph n p y)) nb
      · rw [hp] at y; cases y
    have ho : ∀ j, own j ≠ some p := fun j q => nb (ev1.oB j p q).1
    have ev3 := (ev2.mono l2 w2 s2).ownAt (i := i) (l2.Bm p (.inr rfl)) z0 hn ho hH ((r.mono (lp.lw w1)).mono (l2.lw ev2.wk))
    exact h2 _ _ _ _ Lw.refl (ev3.set rv)
  · rw [if_neg c] at h1; exact h1.elim
end

/-! ### lists of different lengths are not equal, whatever they hold -/
def eqX (x y : D) : Option Bool := match eqD x y with
  | some b => some b
  | none => match x, y with
    | .lst xs, .lst ys => if xs.length = ys.length then none else some false
    | _, _ => none
def gEqX (x y : D) : M D := match eqX x y with
  | some b => M.pure (.bl b)
  | none => M.bad
def gNeX (x y : D) : M D := match eqX x y with
  | some b => M.pure (.bl (!b))
  | none => M.bad
def rEqX (K : PySem.W.Frag) : R2 := fun x y H Q => rEqD K x y H Q ∨ ∃ l b xs zs, x = .ref l ∧ y = .ref b ∧ H l = some (.lst xs) ∧ H b = some (.lst zs) ∧ xs.length ≠ zs.length ∧ Q (.bl false) H
section
variable {X : Cx}
theorem op_eqX (hu : X.A.units + 64 < cLine) : OpR X (compareOp .Eq) (rEqX X.K) := by
  refine (op_eqD hu).or ?_
  intro pins s σ H x y v u Q I rx ry ⟨l, b, xs, zs, ex, ey, hH, hB, hz, q⟩
  subst ex ey
  cases rx
  cases ry
  obtain ⟨z, its, n, r, hl, e⟩ := I.lstM hH
  obtain ⟨z2, its2, n2, r2, hl2, e2⟩ := I.lstM hB
  have k1 := r.length
  have k2 := r2.length
  refine PySem.P.eq_list_lengths e e2 ?_ (by omega) ⟨.bl false, H, I, rfl, q⟩
  rw [List.size_toArray, List.size_toArray]
  exact bne_iff_ne.mpr (by omega)
end
theorem od_eqX {K : PySem.W.Frag} {cl : Cls_} : OpD K cl (rEqX K) gEqX := by
  intro E σ W H S x y dx dy Q w s rx ry h
  unfold gEqX eqX at h
  cases q1 : eqD dx dy with
  | some b =>
    rw [q1] at h
    refine .inl (od_eq E σ W H S x y dx dy Q w s rx ry ?_)
    unfold gEq
    rw [q1]
    exact h
  | none =>
    rw [q1] at h
    cases dx with
    | lst xs =>
      cases dy with
      | lst ys =>
        dsimp only at h
        by_cases c : xs.length = ys.length
        · rw [if_pos c] at h; exact h.elim
        · rw [if_neg c] at h
          cases rx with
          | @lst a vs _ ha _ ra =>
            cases ry with
            | @lst b us _ hb _ rb =>
              exact .inr ⟨a, b, vs, us, rfl, rfl, ha, hb, by rw [ra.length, rb.length]; exact c, Po.val w s h (.bl _)⟩
      | _ => exact h.elim
    | _ => exact h.elim

/-- a list made in place for a name that an inner block sees -/
theorem sw_cell {elt : Expr} {gs : List Comprehension} {scope : Scope} {pos py : Pos} {y : Str} {l : Nat} {env : PySem.Env} (hy : env.scope.names.lookup y = some .cell) : swapsWith (.ListComp elt gs scope pos) (some (.Name y py)) l env = pure false := by
  have ky : env.kindOf y = some .cell := hy
  have no : ((some NameKind.cell : Option NameKind) == some NameKind.local) = false := by decide
  unfold swapsWith
  simp only [ky, no, Bool.and_false, Bool.false_and]
end DN
/-! DM: a logic of the combinators: what holds of results, under a word about the store. -/
namespace DN
open PySem PySem.Spec PyProof.Rows L2

abbrev XP := Str → List (Str × D) → Prop
abbrev X0 : XP := fun _ _ => False
/-- from each store under I: a result with P, or an exception with X, and I again -/
structure Wp {α : Type} (I : Store → Prop) (m : M α) (P : α → Prop) (X : XP := X0) : Prop where
  at_ : ∀ S, I S → match m S with
  | .ok a S' => P a ∧ I S'
  | .exc c fs S' => X c fs ∧ I S'
  | .bad => False
/-- .. of statements -/
structure Ws (I : Store → Prop) (m : Store → RS) (P : Fl → Env → Prop) (X : XP := X0) : Prop where
  at_ : ∀ S, I S → match m S with
  | .go f ρ S' => P f ρ ∧ I S'
  | .exc c fs _ S' => X c fs ∧ I S'
  | .bad => False
section
variable {α β : Type} {I : Store → Prop} {X : XP}
theorem Wp.pure {a : α} {P : α → Prop} (h : P a) : Wp I (M.pure a) P X := Wp.mk fun S i => ⟨h, i⟩
theorem Wp.ret {a : α} {P : α → Prop} (h : P a) : Wp I (Pure.pure a) P X := Wp.mk fun S i => ⟨h, i⟩
theorem Wp.bind {m : M α} {k : α → M β} {P : β → Prop} (h : Wp I m (fun a => Wp I (k a) P X) X) : Wp I (m >>= k) P X := Wp.mk fun S i => by
  have h1 := h.at_ S i
  rw [bind_run]
  cases q : m S with
  | ok a S' => rw [q] at h1; exact h1.1.at_ S' h1.2
  | exc c fs S' => rw [q] at h1; exact h1
  | bad => rw [q] at h1; exact h1
theorem Wp.imp {m : M α} {P P' : α → Prop} {X' : XP} (h : Wp I m P X) (i : ∀ a, P a → P' a) (ix : ∀ c fs, X c fs → X' c fs) : Wp I m P' X' := Wp.mk fun S s => by
  have h1 := h.at_ S s
  cases q : m S with
  | ok a S' => rw [q] at h1; exact ⟨i _ h1.1, h1.2⟩
  | exc c fs S' => rw [q] at h1; exact ⟨ix _ _ h1.1, h1.2⟩
  | bad => rw [q] at h1; exact h1
theorem Wp.mono {m : M α} {P P' : α → Prop} (h : Wp I m P X0) (i : ∀ a, P a → P' a) : Wp I m P' X := h.imp i fun _ _ z => z.elim
/-- a run -/
theorem Wp.run {m : M α} {P : α → Prop} {S : Store} (h : Wp I m P X0) (i : I S) : ∃ a S', m S = .ok a S' ∧ P a ∧ I S' := by
  have h1 := h.at_ S i
  cases q : m S with
  | ok a S' => rw [q] at h1; exact ⟨a, S', rfl, h1⟩
  | exc c fs S' => rw [q] at h1; exact h1.1.elim
  | bad => rw [q] at h1; exact h1.elim
theorem Wp.if_ {c : Prop} [Decidable c] {m n : M α} {P : α → Prop} (h1 : c → Wp I m P X) (h2 : ¬ c → Wp I n P X) : Wp I (if c then m else n) P X := by
  by_cases hc : c
  · rw [if_pos hc]; exact h1 hc
  · rw [if_neg hc]; exact h2 hc
theorem Wp.chk {c : Prop} [Decidable c] {m : M α} {P : α → Prop} (hc : c) (h1 : Wp I m P X) : Wp I (if c then m else M.bad) P X := by rw [if_pos hc]; exact h1
variable {ρ : Env} {P : D → Prop} {PB : Bool → Prop} {PL : List D → Prop} {fa fb fc : Env → M D} {fs : Env → M (List D)} {ta tb : Env → M Bool}
theorem w_var {i : Nat} {d : D} (e : ρ[i]? = some (.val d)) (h : P d) : Wp I (cVar i ρ) P X := Wp.mk fun S s => by unfold cVar; rw [e]; exact ⟨h, s⟩
theorem w_c {d : D} (h : P d) : Wp I (cC d ρ) P X := Wp.mk fun S s => ⟨h, s⟩
theorem w_c2 {g : D → D → M D} (h : Wp I (fa ρ) (fun x => Wp I (fb ρ) (fun y => Wp I (g x y) P X) X) X) : Wp I (c2 g fa fb ρ) P X := Wp.bind (h.imp (fun _ h => Wp.bind h) fun _ _ x => x)
theorem w_c1 {g : D → M D} (h : Wp I (fa ρ) (fun x => Wp I (g x) P X) X) : Wp I (c1 g fa ρ) P X := Wp.bind h
theorem w_cA {g : List D → M D} (h : Wp I (fs ρ) (fun x => Wp I (g x) P X) X) : Wp I (cA g fs ρ) P X := Wp.bind h
theorem w_nil (h : PL []) : Wp I (cNil ρ) PL X := Wp.pure h
theorem w_cons (h : Wp I (fa ρ) (fun x => Wp I (fs ρ) (fun xs => PL (x :: xs)) X) X) : Wp I (cCons fa fs ρ) PL X := Wp.bind (h.imp (fun _ h => Wp.bind (h.imp (fun _ h => Wp.pure h) fun _ _ x => x)) fun _ _ x => x)
theorem w_call {n : Nat} {F : List D → M D} (h : Wp I (fs ρ) (fun ds => ds.length = n ∧ Wp I (F ds) P X) X) : Wp I (cCall n F fs ρ) P X := Wp.bind (h.imp (fun _ ⟨e, h⟩ => Wp.chk e h) fun _ _ x => x)
theorem w_b (h : Wp I (fa ρ) (fun d => ∃ k, d = .bl k ∧ PB k) X) : Wp I (cB fa ρ) PB X := Wp.bind (h.imp (fun _ ⟨k, e, h⟩ => by subst e; exact Wp.pure h) fun _ _ x => x)
theorem w_notB (h : Wp I (ta ρ) (fun k => PB (!k)) X) : Wp I (cNotB ta ρ) PB X := Wp.bind (h.imp (fun _ h => Wp.pure h) fun _ _ x => x)
theorem w_andB (h : Wp I (ta ρ) (fun k => (k = true → Wp I (tb ρ) PB X) ∧ (k = false → PB false)) X) : Wp I (cAndB ta tb ρ) PB X :=
  Wp.bind (h.imp (fun k ⟨h1, h2⟩ => by cases k with | true => exact h1 rfl | false => exact Wp.pure (h2 rfl)) fun _ _ x => x)
theorem w_orB (h : Wp I (ta ρ) (fun k => (k = false → Wp I (tb ρ) PB X) ∧ (k = true → PB true)) X) : Wp I (cOrB ta tb ρ) PB X :=
  Wp.bind (h.imp (fun k ⟨h1, h2⟩ => by cases k with | true => exact Wp.pure (h2 rfl) | false => exact h1 rfl) fun _ _ x => x)
theorem w_andV (h : Wp I (fa ρ) (fun d => ∃ k, d = .bl k ∧ (k = true → Wp I (fb ρ) P X) ∧ (k = false → P (.bl false))) X) : Wp I (cAndV fa fb ρ) P X :=
  Wp.bind (h.imp (fun d ⟨k, e, h1, h2⟩ => by subst e; cases k with | true => exact h1 rfl | false => exact Wp.pure (h2 rfl)) fun _ _ x => x)
theorem w_orV (h : Wp I (fa ρ) (fun d => ∃ k, d = .bl k ∧ (k = false → Wp I (fb ρ) P X) ∧ (k = true → P (.bl true))) X) : Wp I (cOrV fa fb ρ) P X :=
  Wp.bind (h.imp (fun d ⟨k, e, h1, h2⟩ => by subst e; cases k with | true => exact Wp.pure (h2 rfl) | false => exact h1 rfl) fun _ _ x => x)
theorem w_if (h : Wp I (ta ρ) (fun k => (k = true → Wp I (fa ρ) P X) ∧ (k = false → Wp I (fb ρ) P X)) X) : Wp I (cIf ta fa fb ρ) P X :=
  Wp.bind (h.imp (fun k ⟨h1, h2⟩ => by cases k with | true => exact h1 rfl | false => exact h2 rfl) fun _ _ x => x)
theorem w_chain {g1 g2 : D → D → M D} (h : Wp I (fa ρ) (fun x => Wp I (fb ρ) (fun y => Wp I (g1 x y) (fun d => ∃ k, d = .bl k ∧ (k = true → Wp I (fc ρ) (fun z => Wp I (g2 y z) P X) X) ∧ (k = false → P (.bl false))) X) X) X) : Wp I (cChain g1 g2 fa fb fc ρ) P X :=
  Wp.bind (h.imp (fun x h => Wp.bind (h.imp (fun y h => Wp.bind (h.imp (fun d ⟨k, e, h1, h2⟩ => by subst e; cases k with | true => exact Wp.bind (h1 rfl) | false => exact Wp.pure (h2 rfl)) fun _ _ x => x)) fun _ _ x => x)) fun _ _ x => x)
theorem w_it (h : Wp I (fa ρ) (fun d => Wp I (itemsD d) PL X) X) : Wp I (cIt fa ρ) PL X := Wp.bind h
theorem w_rng1 (h : Wp I (fa ρ) (fun d => Wp I (rng1 d) PL X) X) : Wp I (cRng1 fa ρ) PL X := Wp.bind h
theorem w_rng2 (h : Wp I (fa ρ) (fun x => Wp I (fb ρ) (fun y => Wp I (rng2 x y) PL X) X) X) : Wp I (cRng2 fa fb ρ) PL X := Wp.bind (h.imp (fun _ h => Wp.bind h) fun _ _ x => x)
theorem w_zip (h : Wp I (fa ρ) (fun x => Wp I (fb ρ) (fun y => Wp I (gZip x y) PL X) X) X) : Wp I (cZip fa fb ρ) PL X := Wp.bind (h.imp (fun _ h => Wp.bind h) fun _ _ x => x)
theorem w_enum (h : Wp I (fa ρ) (fun x => Wp I (gEnum x) PL X) X) : Wp I (cEnum fa ρ) PL X := Wp.bind h
theorem w_m0 {g : Str → M D} (h : Wp I (fa ρ) (fun d => ∃ a, d = .str a ∧ Wp I (g a) P X) X) : Wp I (cM0 g fa ρ) P X := Wp.bind (h.imp (fun d ⟨a, e, h⟩ => by subst e; exact h) fun _ _ x => x)
theorem w_m1 {g : Str → D → M D} (h : Wp I (fa ρ) (fun d => ∃ a, d = .str a ∧ Wp I (fb ρ) (fun y => Wp I (g a y) P X) X) X) : Wp I (cM1 g fa fb ρ) P X := Wp.bind (h.imp (fun d ⟨a, e, h⟩ => by subst e; exact Wp.bind h) fun _ _ x => x)
theorem w_part {PO : Option Int → Prop} (h : Wp I (fa ρ) (fun d => ∃ i, d = .int i ∧ PO (some i)) X) : Wp I (cPart fa ρ) PO X := Wp.bind (h.imp (fun d ⟨i, e, h⟩ => by subst e; exact Wp.pure h) fun _ _ x => x)
theorem w_noP {PO : Option Int → Prop} (h : PO none) : Wp I (cNoP ρ) PO X := Wp.pure h
theorem w_sl {fl fh : Env → M (Option Int)} (h : Wp I (fa ρ) (fun x => Wp I (fl ρ) (fun lo => Wp I (fh ρ) (fun hi => Wp I (gSl x lo hi) P X) X) X) X) : Wp I (cSl fa fl fh ρ) P X :=
  Wp.bind (h.imp (fun _ h => Wp.bind (h.imp (fun _ h => Wp.bind h) fun _ _ x => x)) fun _ _ x => x)
/-! comprehensions -/
theorem w_noX {m : M α} {Q : α → Prop} (h : Wp I m Q X0) : Wp I (noX m) Q X := Wp.mk fun S s => by
  have h1 := h.at_ S s
  unfold noX
  cases q : m S with
  | ok a S' => rw [q] at h1; exact h1
  | exc c fs S' => rw [q] at h1; exact h1.1.elim
  | bad => rw [q] at h1; exact h1
/-- each item gives nothing or something under R; the results in order -/
inductive Got_ (R : D → Option D → Prop) : List D → List D → Prop where
  | nil : Got_ R [] []
  | skip {d : D} {ds ys : List D} : R d none → Got_ R ds ys → Got_ R (d :: ds) ys
  | take {d y : D} {ds ys : List D} : R d (some y) → Got_ R ds ys → Got_ R (d :: ds) (y :: ys)
theorem w_compL {b : Bd} {t : Env → M Bool} {f : Env → M D} {R : D → Option D → Prop} : ∀ {ds : List D}, (∀ d ∈ ds, ∃ ρ', b d ρ = some ρ' ∧ Wp I (t ρ') (fun k => (k = true → Wp I (f ρ') (fun y => R d (some y)) X0) ∧ (k = false → R d none)) X0) → Wp I (compL b t f ρ ds) (Got_ R ds) X0
  | [], _ => Wp.pure .nil
  | d :: ds, h => by
    obtain ⟨ρ', e, h1⟩ := h d List.mem_cons_self
    have ih := w_compL (ds := ds) fun x hx => h x (List.mem_cons_of_mem _ hx)
    unfold compL
    rw [e]
    refine Wp.bind (h1.imp (fun k ⟨k1, k0⟩ => ?_) fun _ _ x => x)
    cases k with
    | true => exact Wp.bind ((k1 rfl).imp (fun y hy => Wp.bind (ih.imp (fun ys hys => Wp.pure (.take hy hys)) fun _ _ x => x)) fun _ _ x => x)
    | false => exact ih.imp (fun ys hys => .skip (k0 rfl) hys) fun _ _ x => x
theorem w_comp {fi : Env → M (List D)} {b : Bd} {t : Env → M Bool} {f : Env → M D} {vs : List Nat} (R : D → Option D → Prop) (h : Wp I (fi ρ) (fun ds => ds.length ≤ 16777216 ∧
      (∀ d ∈ ds, ∃ ρ', b d (wipeE ρ vs) = some ρ' ∧ Wp I (t ρ') (fun k => (k = true → Wp I (f ρ') (fun y => R d (some y)) X0) ∧ (k = false → R d none)) X0) ∧ ∀ ys, Got_ R ds ys → P (.lst ys)) X) : Wp I (cComp fi b t f vs ρ) P X :=
  Wp.bind (h.imp (fun ds ⟨c, h1, h2⟩ => Wp.chk c (Wp.bind ((w_noX (w_compL h1)).imp (fun ys hys => Wp.pure (h2 ys hys)) fun _ _ x => x))) fun _ _ x => x)
theorem w_yes {Q : Bool → Prop} (h : Q true) : Wp I (cYes ρ) Q X := Wp.pure h
theorem Got_.map {g : D → D} : ∀ {ds ys : List D}, Got_ (fun d o => o = some (g d)) ds ys → ys = ds.map g
  | _, _, .nil => rfl
  | _, _, .skip h _ => by cases h
  | _, _, .take h t => by cases h; rw [List.map_cons, Got_.map t]
theorem Got_.filterMap {g : D → Option D} : ∀ {ds ys : List D}, Got_ (fun d o => o = g d) ds ys → ys = ds.filterMap g
  | _, _, .nil => rfl
  | _, _, .skip h t => by rw [List.filterMap_cons_none h.symm, Got_.filterMap t]
  | _, _, .take h t => by rw [List.filterMap_cons_some h.symm, Got_.filterMap t]
theorem Got_.all {Q : D → Prop} : ∀ {ds ys : List D}, Got_ (fun _ o => ∃ y, o = some y ∧ Q y) ds ys → ys.length = ds.length ∧ ∀ y ∈ ys, Q y
  | _, _, .nil => ⟨rfl, fun _ h => by cases h⟩
  | _, _, .skip h _ => by obtain ⟨_, h, _⟩ := h; cases h
  | _, _, .take h t => by
    obtain ⟨y, e, q⟩ := h
    cases e
    obtain ⟨l, a⟩ := Got_.all t
    refine ⟨by rw [List.length_cons, List.length_cons, l], fun z hz => ?_⟩
    rcases List.mem_cons.mp hz with rfl | hz
    · exact q
    · exact a z hz
/-! statements -/
variable {PS : Fl → Env → Prop} {f g : Sm}
theorem Ws.imp {m : Store → RS} {Q Q' : Fl → Env → Prop} {X' : XP} (h : Ws I m Q X) (i : ∀ a b, Q a b → Q' a b) (ix : ∀ c fs, X c fs → X' c fs) : Ws I m Q' X' := Ws.mk fun S s => by
  have h1 := h.at_ S s
  cases q : m S with
  | go a r S' => rw [q] at h1; exact ⟨i _ _ h1.1, h1.2⟩
  | exc c fs r S' => rw [q] at h1; exact ⟨ix _ _ h1.1, h1.2⟩
  | bad => rw [q] at h1; exact h1
theorem ws_onE {m : M α} {k : α → Store → RS} (h : Wp I m (fun a => Ws I (k a) PS X) X) : Ws I (fun S => onE (m S) ρ k) PS X := Ws.mk fun S s => by
  have h1 := h.at_ S s
  show match onE (m S) ρ k with | .go f ρ S' => PS f ρ ∧ I S' | .exc c fs _ S' => X c fs ∧ I S' | .bad => False
  cases q : m S with
  | ok a S' => rw [q] at h1; exact h1.1.at_ S' h1.2
  | exc c fs S' => rw [q] at h1; exact h1
  | bad => rw [q] at h1; exact h1
theorem ws_go {fl : Fl} (h : PS fl ρ) : Ws I (fun S => .go fl ρ S) PS X := Ws.mk fun S s => ⟨h, s⟩
theorem ws_asg {b : Bd} (h : Wp I (fa ρ) (fun d => ∃ ρ', b d ρ = some ρ' ∧ PS .nx ρ') X) : Ws I (cAsg fa b ρ) PS X := by
  refine ws_onE (h.imp (fun d ⟨ρ', e, h⟩ => ?_) fun _ _ x => x)
  simp only [e]
  exact ws_go h
theorem ws_ret (h : Wp I (fa ρ) (fun d => PS (.rt d) ρ) X) : Ws I (cRet fa ρ) PS X := ws_onE (h.imp (fun d h => ws_go h) fun _ _ x => x)
theorem ws_drop (h : Wp I (fa ρ) (fun _ => PS .nx ρ) X) : Ws I (cDrop fa ρ) PS X := ws_onE (h.imp (fun d h => ws_go h) fun _ _ x => x)
theorem ws_if (h : Wp I (ta ρ) (fun k => (k = true → Ws I (f ρ) PS X) ∧ (k = false → Ws I (g ρ) PS X)) X) : Ws I (cIfS ta f g ρ) PS X := by
  refine ws_onE (h.imp (fun k ⟨h1, h2⟩ => ?_) fun _ _ x => x)
  cases k with
  | true => exact h1 rfl
  | false => exact h2 rfl
theorem ws_next (h : PS .nx ρ) : Ws I (cNext ρ) PS X := ws_go h
theorem ws_brk (h : PS .bk ρ) : Ws I (cBrk ρ) PS X := ws_go h
theorem ws_cont (h : PS .ct ρ) : Ws I (cCont ρ) PS X := ws_go h
theorem ws_retN (h : PS (.rt .non) ρ) : Ws I (cRetN ρ) PS X := ws_go h
theorem ws_seq (h : Ws I (f ρ) (fun fl ρ' => (fl = .nx → Ws I (g ρ') PS X) ∧ (fl ≠ .nx → PS fl ρ')) X) : Ws I (cSeq f g ρ) PS X := Ws.mk fun S s => by
  have h1 := h.at_ S s
  unfold cSeq
  cases q : f ρ S with
  | go fl r S' =>
    rw [q] at h1
    cases fl with
    | nx => exact (h1.1.1 rfl).at_ S' h1.2
    | rt d => exact ⟨h1.1.2 (by intro z; cases z), h1.2⟩
    | bk => exact ⟨h1.1.2 (by intro z; cases z), h1.2⟩
    | ct => exact ⟨h1.1.2 (by intro z; cases z), h1.2⟩
  | exc c fs r S' => rw [q] at h1; exact h1
  | bad => rw [q] at h1; exact h1
theorem ws_par {i j : Nat} (h : Wp I (fs ρ) (fun ds => ∃ x y, ds = [x, y] ∧ PS .nx ((ρ.set i (.val x)).set j (.val y))) X) : Ws I (cPar i j fs ρ) PS X :=
  ws_onE (h.imp (fun ds ⟨x, y, e, h⟩ => by subst e; exact ws_go h) fun _ _ x => x)
theorem ws_frz {i : Nat} (h : Ws I (f (frzE i ρ)) PS X) : Ws I (cFrz i f ρ) PS X := h
theorem ws_setOwn {i : Nat} (h : Wp I (fs ρ) (fun ds => ds.length ≤ 16777216 ∧ PS .nx (ρ.set i (.own ds))) X) : Ws I (cSetOwn i fs ρ) PS X := by
  refine ws_onE (h.imp (fun ds ⟨c, h⟩ => ?_) fun _ _ x => x)
  simp only [if_pos c]
  exact ws_go h
theorem ws_app {i : Nat} {xs : List D} (e : ρ[i]? = some (.own xs)) (hl : xs.length < 16777216) (h : Wp I (fa ρ) (fun d => PS .nx (ρ.set i (.own (xs ++ [d])))) X) : Ws I (cApp i fa ρ) PS X := by
  show Ws I (fun S => cApp i fa ρ S) PS X
  unfold cApp
  simp only [e]
  refine ws_onE (h.imp (fun d h => ?_) fun _ _ x => x)
  simp only [if_pos hl]
  exact ws_go h
/-- a loop by its word, over what is left -/
theorem ws_forL {b : Bd} {body : Sm} (J : List D → Env → Prop) (turn : ∀ d ds ρ, J (d :: ds) ρ → ∃ ρ1, b d ρ = some ρ1 ∧ Ws I (body ρ1) (fun fl ρ2 => match fl with
      | .nx => J ds ρ2
      | .ct => J ds ρ2
      | .bk => PS .nx ρ2
      | .rt d => PS (.rt d) ρ2) X) (last : ∀ ρ, J [] ρ → PS .nx ρ) : ∀ (ds : List D) (ρ : Env), J ds ρ → Ws I (forL b body ds ρ) PS X
  | [], ρ, h => ws_go (last ρ h)
  | d :: ds, ρ, h => Ws.mk fun S s => by
    obtain ⟨ρ1, e, h1⟩ := turn d ds ρ h
    have ih := ws_forL J turn last ds
    have h1 := h1.at_ S s
    unfold forL
    rw [e]
    dsimp only
    cases q : body ρ1 S with
    | go fl r S' =>
      rw [q] at h1
      cases fl with
      | nx => exact (ih r h1.1).at_ S' h1.2
      | ct => exact (ih r h1.1).at_ S' h1.2
      | bk => exact h1
      | rt d => exact h1
    | exc c fs r S' => rw [q] at h1; exact h1
    | bad => rw [q] at h1; exact h1
theorem ws_for {fi : Env → M (List D)} {b : Bd} {body : Sm} (h : Wp I (fi ρ) (fun ds => Ws I (forL b body ds ρ) PS X) X) : Ws I (cFor fi b body ρ) PS X := ws_onE h
/-- a def -/
theorem w_def {n m : Nat} {body : Sm} {ds : List D} (e : ds.length = n) (h : Ws I (body (ds.map Sl.val ++ List.replicate (m - n) Sl.un)) (fun fl _ => match fl with
    | .rt d => P d
    | .nx => P .non
    | _ => False) X) : Wp I (runF n m body ds) P X := Wp.mk fun S s => by
  have h1 := h.at_ S s
  unfold runF
  rw [if_pos e]
  cases q : body (ds.map Sl.val ++ List.replicate (m - n) Sl.un) S with
  | go fl r S' =>
    rw [q] at h1
    cases fl with
    | nx => exact h1
    | rt d => exact h1
    | bk => exact h1.1.elim
    | ct => exact h1.1.elim
  | exc c fs r S' => rw [q] at h1; exact h1
  | bad => rw [q] at h1; exact h1
end

/-! ### the die -/
def IsDie (n : Nat) (S : Store) : Prop := ∃ a b c : Int, S[n]? = some (.lst [.int a, .int b, .int c])
section
variable {n : Nat} {X : XP}
theorem w_dieAt {k : Int} {P : D → Prop} (hk : k = 0 ∨ k = 1 ∨ k = 2) (h : ∀ i : Int, P (.int i)) : Wp (IsDie n) (gIx (.mut n) (.int k)) P X := Wp.mk fun S ⟨a, b, c, e⟩ => by
  have e' : S[n]? = some (.lst [.int a, .int b, .int c]) := e
  unfold gIx
  dsimp only
  rw [e']
  rcases hk with rfl | rfl | rfl
  · exact ⟨h a, a, b, c, e⟩
  · exact ⟨h b, a, b, c, e⟩
  · exact ⟨h c, a, b, c, e⟩
theorem w_dieSet {k v : Int} {P : Unit → Prop} (hk : k = 0 ∨ k = 1 ∨ k = 2) (h : P ()) : Wp (IsDie n) (gSetI (.mut n) (.int k) (.int v)) P X := Wp.mk fun S ⟨a, b, c, e⟩ => by
  have e' : S[n]? = some (.lst [.int a, .int b, .int c]) := e
  have hn : n < S.length := (List.getElem?_eq_some_iff.mp e).1
  unfold gSetI
  dsimp only
  rw [e']
  rcases hk with rfl | rfl | rfl
  · exact ⟨h, v, b, c, List.getElem?_set_self hn⟩
  · exact ⟨h, a, v, c, List.getElem?_set_self hn⟩
  · exact ⟨h, a, b, v, List.getElem?_set_self hn⟩
theorem ws_setI {ρ : Env} {I : Store → Prop} {PS : Fl → Env → Prop} {fe fo fi : Env → M D} (h : Wp I (fe ρ) (fun v => Wp I (fo ρ) (fun o => Wp I (fi ρ) (fun i => Wp I (gSetI o i v) (fun _ => PS .nx ρ) X) X) X) X) : Ws I (cSetI fe fo fi ρ) PS X :=
  ws_onE (h.imp (fun v h => ws_onE (h.imp (fun o h => ws_onE (h.imp (fun i h => ws_onE (h.imp (fun _ h => ws_go h) fun _ _ x => x)) fun _ _ x => x)) fun _ _ x => x)) fun _ _ x => x)
end
end DN
/-! DG: the leaves: what an operation answers. -/
namespace DN
open PySem PySem.Spec PyProof.Rows L2 TL
section
variable {I : Store → Prop} {X : XP} {P : D → Prop} {PL : List D → Prop}
theorem wg_eqm {α : Type} {m : M α} {a : α} {Q : α → Prop} (e : m = M.pure a) (h : Q a) : Wp I m Q X := by rw [e]; exact Wp.pure h
theorem wg_add {i j : Int} (h : P (.int (i + j))) : Wp I (gAdd (.int i) (.int j)) P X := Wp.pure h
theorem wg_addS {a b : Str} (hl : a.length + b.length ≤ 16777216) (h : P (.str (a ++ b))) : Wp I (gAdd (.str a) (.str b)) P X := Wp.chk hl (Wp.pure h)
theorem wg_addL {a b : List D} (hl : a.length + b.length ≤ 16777216) (h : P (.lst (a ++ b))) : Wp I (gAdd (.lst a) (.lst b)) P X := Wp.chk hl (Wp.pure h)
theorem wg_addT {a b : List D} (hl : a.length + b.length ≤ 16777216) (h : P (.tup (a ++ b))) : Wp I (gAdd (.tup a) (.tup b)) P X := Wp.chk hl (Wp.pure h)
theorem wg_sub {i j : Int} (h : P (.int (i - j))) : Wp I (gSub (.int i) (.int j)) P X := Wp.pure h
theorem wg_mul {i j : Int} (hl : (-(2 ^ 64) < i ∧ i < 2 ^ 64) ∨ (-(2 ^ 64) < j ∧ j < 2 ^ 64)) (h : P (.int (i * j))) : Wp I (gMul (.int i) (.int j)) P X := Wp.chk hl (Wp.pure h)
theorem wg_mod {i j : Int} (hl : 0 < j) (h : P (.int (i % j))) : Wp I (gMod (.int i) (.int j)) P X := Wp.chk hl (Wp.pure h)
theorem wg_fdiv {i j : Int} (hl : 0 < j ∧ j < 1073741824) (h : P (.int (i / j))) : Wp I (gFdiv (.int i) (.int j)) P X := Wp.chk hl (Wp.pure h)
theorem wg_pow {i j : Int} (hl : 0 ≤ j ∧ (Builtin.Int.intBits i : Int) * j ≤ 134217728) (h : P (.int (i ^ j.toNat))) : Wp I (gPow (.int i) (.int j)) P X := Wp.chk hl (Wp.pure h)
theorem wg_neg {i : Int} (h : P (.int (-i))) : Wp I (gNeg (.int i)) P X := Wp.pure h
theorem wg_lt {i j : Int} (h : P (.bl (decide (i < j)))) : Wp I (gLt (.int i) (.int j)) P X := Wp.pure h
theorem wg_le {i j : Int} (h : P (.bl (decide (i ≤ j)))) : Wp I (gLe (.int i) (.int j)) P X := Wp.pure h
theorem wg_gt {i j : Int} (h : P (.bl (decide (j < i)))) : Wp I (gGt (.int i) (.int j)) P X := Wp.pure h
theorem wg_ge {i j : Int} (h : P (.bl (decide (j ≤ i)))) : Wp I (gGe (.int i) (.int j)) P X := Wp.pure h
theorem wg_eq {x y : D} {b : Bool} (e : eqD x y = some b) (h : P (.bl b)) : Wp I (gEq x y) P X := wg_eqm (by unfold gEq; rw [e]) h
theorem wg_ne {x y : D} {b : Bool} (e : eqD x y = some b) (h : P (.bl (!b))) : Wp I (gNe x y) P X := wg_eqm (by unfold gNe; rw [e]) h
theorem wg_in {x y : D} {b : Bool} (e : inD x y = some b) (h : P (.bl b)) : Wp I (gIn x y) P X := wg_eqm (by unfold gIn; rw [e]) h
theorem wg_notin {x y : D} {b : Bool} (e : inD x y = some b) (h : P (.bl (!b))) : Wp I (gNotIn x y) P X := wg_eqm (by unfold gNotIn; rw [e]) h
theorem wg_eqX {x y : D} {b : Bool} (e : eqX x y = some b) (h : P (.bl b)) : Wp I (gEqX x y) P X := wg_eqm (by unfold gEqX; rw [e]) h
theorem wg_not {b : Bool} (h : P (.bl (!b))) : Wp I (gNot (.bl b)) P X := Wp.pure h
theorem wg_ixL {xs : List D} {i : Int} {d : D} (e : atI xs i = some d) (h : P d) : Wp I (gIx (.lst xs) (.int i)) P X := wg_eqm (by unfold gIx; dsimp only; rw [e]; rfl) h
theorem wg_ixT {xs : List D} {i : Int} {d : D} (e : atI xs i = some d) (h : P d) : Wp I (gIx (.tup xs) (.int i)) P X := wg_eqm (by unfold gIx; dsimp only; rw [e]; rfl) h
theorem wg_ixC {xs : List Int} {i : Int} {d : Int} (e : atI xs i = some d) (h : P (.int d)) : Wp I (gIx (.scr xs) (.int i)) P X := wg_eqm (by unfold gIx; dsimp only; rw [e]; rfl) h
theorem wg_ixS {z : Str} {i : Int} {c : Nat} (hz : z.length ≤ 16777216) (e : atI z.cps.toList i = some c) (h : P (.str ⟨#[c]⟩)) : Wp I (gIx (.str z) (.int i)) P X := wg_eqm (by unfold gIx; dsimp only; rw [if_pos hz, e]; rfl) h
theorem wg_lenL {xs : List D} (h : P (.int xs.length)) : Wp I (gLen [.lst xs]) P X := Wp.pure h
theorem wg_lenT {xs : List D} (h : P (.int xs.length)) : Wp I (gLen [.tup xs]) P X := Wp.pure h
theorem wg_lenC {xs : List Int} (h : P (.int xs.length)) : Wp I (gLen [.scr xs]) P X := Wp.pure h
theorem wg_lenS {z : Str} (hz : z.length ≤ 16777216) (h : P (.int z.length)) : Wp I (gLen [.str z]) P X := Wp.chk hz (Wp.pure h)
theorem wg_int {i : Int} (h : P (.int i)) : Wp I (gInt [.int i]) P X := Wp.pure h
theorem wg_intB {b : Bool} (h : P (.int (if b then 1 else 0))) : Wp I (gInt [.bl b]) P X := Wp.pure h
theorem wg_abs {i : Int} (h : P (.int (if i < 0 then -i else i))) : Wp I (gAbs [.int i]) P X := Wp.pure h
theorem wg_max2 {i j : Int} (h : P (.int (if j > i then j else i))) : Wp I (gMax2 [.int i, .int j]) P X := Wp.pure h
theorem wg_min2 {i j : Int} (h : P (.int (if j < i then j else i))) : Wp I (gMin2 [.int i, .int j]) P X := Wp.pure h
theorem wg_tup {xs : List D} (hl : xs.length ≤ 16777216) (h : P (.tup xs)) : Wp I (gTup xs) P X := Wp.chk hl (Wp.pure h)
theorem wg_lst {xs : List D} (hl : xs.length ≤ 16777216) (h : P (.lst xs)) : Wp I (gLst xs) P X := Wp.chk hl (Wp.pure h)
theorem wg_isi {T t : String} {d : D} (e : tyD d = some t) (h : P (.bl (isiD T t))) : Wp I (gIsi T d) P X := wg_eqm (by unfold gIsi; rw [e]) h
theorem wg_all {xs : List D} {bs : List Bool} (e : blsD xs = some bs) (h : P (.bl (bs.all id))) : Wp I (gAll [.lst xs]) P X := wg_eqm (by unfold gAll; dsimp only; rw [e]) h
theorem wg_any {xs : List D} {bs : List Bool} (e : blsD xs = some bs) (h : P (.bl (bs.any id))) : Wp I (gAny [.lst xs]) P X := wg_eqm (by unfold gAny; dsimp only; rw [e]) h
theorem wg_joinL {a : Str} {xs : List D} {ys : List Str} (e : strsD xs = some ys) (hl : (ys.map (·.length)).sum + ys.length * a.length ≤ 16777216) (h : P (.str (Txt.join a ys))) : Wp I (gJoin a (.lst xs)) P X :=
  wg_eqm (by unfold gJoin; dsimp only; rw [e]; exact if_pos hl) h
theorem wg_upper {a : Str} (hl : a.length ≤ 5592405) (h : P (.str (Txt.upper a))) : Wp I (gUpper a) P X := Wp.chk hl (Wp.pure h)
theorem wg_reprB {b : Bool} (h : P (.str (if b then "True" else "False"))) : Wp I (gRepr [.bl b]) P X := Wp.pure h
theorem wg_itL {xs : List D} (h : PL xs) : Wp I (itemsD (.lst xs)) PL X := Wp.pure h
theorem wg_itT {xs : List D} (h : PL xs) : Wp I (itemsD (.tup xs)) PL X := Wp.pure h
theorem wg_itC {xs : List Int} (h : PL (xs.map D.int)) : Wp I (itemsD (.scr xs)) PL X := Wp.pure h
theorem wg_itS {z : Str} (h : PL (chD z)) : Wp I (itemsD (.str z)) PL X := Wp.pure h
theorem wg_rng1 {j : Int} (hj : -(2 ^ 62) ≤ j ∧ j < 2 ^ 62) (h : PL (rngD 0 j.toNat)) : Wp I (rng1 (.int j)) PL X := Wp.chk hj (Wp.pure h)
theorem wg_rng2 {i j : Int} (hj : -(2 ^ 62) ≤ i ∧ i < 2 ^ 62 ∧ -(2 ^ 62) ≤ j ∧ j < 2 ^ 62) (h : PL (rngD i (j - i).toNat)) : Wp I (rng2 (.int i) (.int j)) PL X := Wp.chk hj (Wp.pure h)
theorem wg_slS {z : Str} {lo hi : Option Int} (hz : z.length ≤ 16777216) (h : P (.str (cutS z lo hi))) : Wp I (gSl (.str z) lo hi) P X := Wp.chk hz (Wp.pure h)
theorem wg_slL {z : List D} {lo hi : Option Int} (h : P (.lst (cutD z lo hi))) : Wp I (gSl (.lst z) lo hi) P X := Wp.pure h
theorem wg_slT {z : List D} {lo hi : Option Int} (h : P (.tup (cutD z lo hi))) : Wp I (gSl (.tup z) lo hi) P X := Wp.pure h
/-- a tuple or a list that is seen anew: the list's place as its word -/
theorem at_some {α : Type} {xs : List α} {i : Int} (h0 : 0 ≤ i) (h1 : i < xs.length) : ∃ d, atI xs i = some d ∧ xs[i.toNat]? = some d := by
  have hl : i.toNat < xs.length := by omega
  refine ⟨xs[i.toNat], ?_, List.getElem?_eq_getElem hl⟩
  unfold atI ixN
  rw [if_pos h0, if_pos h1]
  exact List.getElem?_eq_getElem hl
/-- from any store, a statement that makes the die, then the rest under the die's word -/
theorem ws_newDie {i : Nat} {ρ : Env} {g : Sm} {PS : Fl → Env → Prop} {fa : Env → M D} (h : ∀ S, ∃ S', fa ρ S = .ok (.mut S.length) S' ∧ IsDie S.length S') (h2 : ∀ n, Ws (IsDie n) (g (ρ.set i (.val (.mut n)))) PS X) :
    Ws (fun _ => True) (cSeq (cAsg fa (bName i)) g ρ) PS X := Ws.mk fun S _ => by
  obtain ⟨S', e, d⟩ := h S
  have h2 := (h2 S.length).at_ S' d
  simp only [cSeq, cAsg, onE, e, bName]
  cases q : g (ρ.set i (.val (.mut S.length))) S' with
  | go fl r S' => rw [q] at h2; exact ⟨h2.1, trivial⟩
  | exc c fs r S' => rw [q] at h2; exact ⟨h2.1, trivial⟩
  | bad => rw [q] at h2; exact h2
end

theorem rt_nx {d : D} {Q : Prop} (z : Fl.rt d = Fl.nx) : Q := by cases z
theorem bk_nx {Q : Prop} (z : Fl.bk = Fl.nx) : Q := by cases z
theorem ct_nx {Q : Prop} (z : Fl.ct = Fl.nx) : Q := by cases z
/-! the def that makes the die -/
def Wl (S0 : Store) (m : Store → RS) : Prop := ∃ ρ2 S2, m S0 = .go (.rt (.mut S0.length)) ρ2 S2 ∧ IsDie S0.length S2
section
variable {S0 : Store} {ρ : Env}
theorem wl_asg {i : Nat} {fa : Env → M D} {g : Sm} (h : Wp (fun S => S = S0) (fa ρ) (fun d => Wl S0 (g (ρ.set i (.val d)))) X0) : Wl S0 (cSeq (cAsg fa (bName i)) g ρ) := by
  obtain ⟨d, S', e, ⟨ρ2, S2, e2, hd⟩, rfl⟩ := h.run rfl
  refine ⟨ρ2, S2, ?_, hd⟩
  simp only [cSeq, cAsg, onE, e, bName]
  exact e2
theorem wl_ret {fs : Env → M (List D)} (h : Wp (fun S => S = S0) (fs ρ) (fun xs => ∃ a b c : Int, xs = [.int a, .int b, .int c]) X0) : Wl S0 (cRet (cA gLstM fs) ρ) := by
  obtain ⟨xs, S', e, ⟨a, b, c, rfl⟩, rfl⟩ := h.run rfl
  have z3 : (3 : Nat) ≤ 16777216 := by omega
  refine ⟨ρ, S' ++ [.lst [.int a, .int b, .int c]], ?_, a, b, c, by rw [List.getElem?_append_right (Nat.le_refl _), Nat.sub_self]; rfl⟩
  simp only [cRet, onE, cA, bind_run, e, gLstM, List.length_cons, List.length_nil, Nat.reduceAdd, z3, if_true]
theorem wl_run {n m : Nat} {body : Sm} {ds : List D} (e : ds.length = n) (h : Wl S0 (body (ds.map Sl.val ++ List.replicate (m - n) Sl.un))) : ∃ S', runF n m body ds S0 = .ok (.mut S0.length) S' ∧ IsDie S0.length S' := by
  obtain ⟨ρ2, S2, e2, hd⟩ := h
  refine ⟨S2, ?_, hd⟩
  unfold runF
  rw [if_pos e, e2]
end

/-! ### comprehensions by a function -/
theorem bls_map_ {α : Type} (p : α → Bool) : ∀ xs : List α, blsD (xs.map fun a => D.bl (p a)) = some (xs.map p)
  | [] => rfl
  | x :: xs => by unfold List.map blsD; rw [bls_map_ p xs]; rfl
section
variable {I : Store → Prop} {X : XP} {P : D → Prop} {ρ : Env} {fi : Env → M (List D)} {b : Bd} {t : Env → M Bool} {f : Env → M D} {vs : List Nat}
theorem fm_if (p : D → Bool) (g : D → D) : ∀ ds : List D, ds.filterMap (fun d => if p d = true then some (g d) else none) = (ds.filter p).map g
  | [] => rfl
  | d :: ds => by
    have ih := fm_if p g ds
    cases hp : p d with
    | true => simp only [List.filterMap_cons, List.filter_cons, hp, if_true, List.map_cons, ih]
    | false => simp only [List.filterMap_cons, List.filter_cons, hp, Bool.false_eq_true, if_false, ih]
theorem w_compF (p : D → Bool) (g : D → D) (h : Wp I (fi ρ) (fun ds => ds.length ≤ 16777216 ∧ (∀ d ∈ ds, ∃ ρ', b d (wipeE ρ vs) = some ρ' ∧ Wp I (t ρ') (fun k => k = p d ∧ (k = true → Wp I (f ρ') (fun y => y = g d) X0)) X0) ∧ P (.lst ((ds.filter p).map g))) X) :
    Wp I (cComp fi b t f vs ρ) P X := by
  refine w_comp (fun d o => o = if p d = true then some (g d) else none) (h.imp (fun ds ⟨h1, h2, h3⟩ => ⟨h1, fun d hd => ?_, fun ys hys => ?_⟩) fun _ _ x => x)
  · obtain ⟨ρ', e, w⟩ := h2 d hd
    refine ⟨ρ', e, w.imp (fun k ⟨e1, e2⟩ => ⟨fun hk => (e2 hk).imp (fun y hy => ?_) fun _ _ x => x, fun hk => ?_⟩) fun _ _ x => x⟩
    · rw [← e1, if_pos hk, hy]
    · rw [← e1, hk]; rfl
  · have := hys.filterMap (g := fun d => if p d = true then some (g d) else none)
    rw [this]
    rw [fm_if]
    exact h3
theorem w_compM (g : D → D) (h : Wp I (fi ρ) (fun ds => ds.length ≤ 16777216 ∧ (∀ d ∈ ds, ∃ ρ', b d (wipeE ρ vs) = some ρ' ∧ Wp I (f ρ') (fun y => y = g d) X0) ∧ P (.lst (ds.map g))) X) : Wp I (cComp fi b cYes f vs ρ) P X := by
  refine w_compF (fun _ => true) g (h.imp (fun ds ⟨h1, h2, h3⟩ => ⟨h1, fun d hd => ?_, ?_⟩) fun _ _ x => x)
  · obtain ⟨ρ', e, w⟩ := h2 d hd
    exact ⟨ρ', e, w_yes ⟨rfl, fun _ => w⟩⟩
  · rw [List.filter_eq_self.mpr fun _ _ => rfl]
    exact h3
theorem w_allc (p : D → Bool) (h : Wp I (fi ρ) (fun ds => ds.length ≤ 16777216 ∧ (∀ d ∈ ds, ∃ ρ', b d (wipeE ρ vs) = some ρ' ∧ Wp I (f ρ') (fun y => y = .bl (p d)) X0) ∧ P (.bl (ds.all p))) X) : Wp I (cA gAll (cCons (cComp fi b cYes f vs) cNil) ρ) P X := by
  refine w_cA (w_cons (w_compM (fun d => .bl (p d)) (h.imp (fun ds ⟨h1, h2, h3⟩ => ⟨h1, h2, w_nil (wg_all (bls_map_ p ds) ?_)⟩) fun _ _ x => x)))
  rw [List.all_map]
  exact h3
theorem w_anyc (p : D → Bool) (h : Wp I (fi ρ) (fun ds => ds.length ≤ 16777216 ∧ (∀ d ∈ ds, ∃ ρ', b d (wipeE ρ vs) = some ρ' ∧ Wp I (f ρ') (fun y => y = .bl (p d)) X0) ∧ P (.bl (ds.any p))) X) : Wp I (cA gAny (cCons (cComp fi b cYes f vs) cNil) ρ) P X := by
  refine w_cA (w_cons (w_compM (fun d => .bl (p d)) (h.imp (fun ds ⟨h1, h2, h3⟩ => ⟨h1, h2, w_nil (wg_any (bls_map_ p ds) ?_)⟩) fun _ _ x => x)))
  rw [List.any_map]
  exact h3
theorem wg_allM {p : D → Bool} {ds : List D} (h : P (.bl (ds.all p))) : Wp I (gAll [.lst (ds.map fun d => D.bl (p d))]) P X := wg_all (bls_map_ p ds) (by rw [List.all_map]; exact h)
theorem wg_anyM {p : D → Bool} {ds : List D} (h : P (.bl (ds.any p))) : Wp I (gAny [.lst (ds.map fun d => D.bl (p d))]) P X := wg_any (bls_map_ p ds) (by rw [List.any_map]; exact h)
theorem wg_tupleL {xs : List D} (h : P (.tup xs)) : Wp I (gTuple [.lst xs]) P X := Wp.pure h
theorem wg_tupleT {xs : List D} (h : P (.tup xs)) : Wp I (gTuple [.tup xs]) P X := Wp.pure h
theorem wg_listL {xs : List D} (h : P (.lst xs)) : Wp I (gList [.lst xs]) P X := Wp.pure h
theorem wg_listT {xs : List D} (h : P (.lst xs)) : Wp I (gList [.tup xs]) P X := Wp.pure h
theorem wg_revL {xs : List D} (h : P (.lst xs.reverse)) : Wp I (gRev (.lst xs)) P X := Wp.pure h
theorem wg_revT {xs : List D} (h : P (.tup xs.reverse)) : Wp I (gRev (.tup xs)) P X := Wp.pure h
theorem wg_zipT {xs ys : List D} {PL : List D → Prop} (h : PL (zipD xs ys)) : Wp I (gZip (.tup xs) (.tup ys)) PL X := Wp.pure h
theorem wg_mulT {xs : List D} {k : Int} (hl : xs.isEmpty = false ∧ 2 ≤ k ∧ k ≤ 1000 ∧ xs.length ≤ 1000) (h : P (.tup (List.replicate k.toNat xs).flatten)) : Wp I (gMul (.tup xs) (.int k)) P X := Wp.chk hl (Wp.pure h)
theorem wg_mulL {xs : List D} {k : Int} (hl : 0 ≤ k ∧ k ≤ 1000 ∧ xs.length ≤ 1000) (h : P (.lst (List.replicate k.toNat xs).flatten)) : Wp I (gMul (.lst xs) (.int k)) P X := Wp.chk hl (Wp.pure h)
theorem ws_parO {PS : Fl → Env → Prop} {i j : Nat} {fs : Env → M (List D)} {fe : Env → M D} (h : Wp I (fs ρ) (fun ds => ds.length ≤ 16777216 ∧ Wp I (fe ρ) (fun d => PS .nx ((ρ.set i (.own ds)).set j (.val d))) X) X) : Ws I (cParO i j fs fe ρ) PS X := by
  refine ws_onE (h.imp (fun ds ⟨c, h⟩ => ?_) fun _ _ x => x)
  simp only [if_pos c]
  exact ws_onE (h.imp (fun d h => ws_go h) fun _ _ x => x)
/-- a comparison by its answer -/
theorem eqD_int (i j : Int) : eqD (.int i) (.int j) = some (decide (i = j)) := by
  have e : ∀ k : Int, toP (.int k) = some (.int k) := fun k => by unfold toP; rfl
  unfold eqD
  rw [e, e]
  dsimp only
  rw [if_pos ⟨rfl, rfl⟩]
  show some (i == j) = _
  rfl
theorem eqD_bl (i j : Bool) : eqD (.bl i) (.bl j) = some (decide (i = j)) := by
  have e : ∀ k : Bool, toP (.bl k) = some (.bool k) := fun k => by unfold toP; rfl
  unfold eqD
  rw [e, e]
  cases i <;> cases j <;> decide
theorem eqX_of {x y : D} {b : Bool} (e : eqD x y = some b) : eqX x y = some b := by unfold eqX; rw [e]
theorem eqX_nil (xs : List D) : eqX (.lst xs) (.lst []) = some xs.isEmpty := by
  have e2 : toP (.lst []) = some (.list []) := by unfold toP toPs; rfl
  cases xs with
  | nil =>
    refine eqX_of ?_
    unfold eqD
    rw [e2]
    decide
  | cons x xs =>
    unfold eqX
    cases q : eqD (.lst (x :: xs)) (.lst []) with
    | none => rfl
    | some b =>
      unfold eqD at q
      rw [e2] at q
      unfold toP toPs at q
      cases q1 : toP x with
      | none => rw [q1] at q; cases q
      | some p =>
        cases q2 : toPs xs with
        | none => rw [q1, q2] at q; cases q
        | some ps =>
          rw [q1, q2] at q
          dsimp only [Option.map_some] at q
          by_cases c : SeqAt.shaped (.list (p :: ps)) = true ∧ SeqAt.shaped (.list []) = true
          · rw [if_pos c] at q; cases q; rfl
          · rw [if_neg c] at q; cases q
end

/-! ### loops over numbers, parts of sequences -/
section
variable {I : Store → Prop} {X : XP} {PS : Fl → Env → Prop}
theorem ws_forR {i : Nat} {body : Sm} {lo : Int} (n : Nat) (J : Nat → Env → Prop) (turn : ∀ k ρ, k < n → J k ρ → Ws I (body (ρ.set i (.val (.int (lo + (k : Nat)))))) (fun fl ρ2 => match fl with
      | .nx => J (k + 1) ρ2
      | .ct => J (k + 1) ρ2
      | .bk => PS .nx ρ2
      | .rt d => PS (.rt d) ρ2) X) (last : ∀ ρ, J n ρ → PS .nx ρ) (ρ : Env) (h : J 0 ρ) : Ws I (forL (bName i) body (rngD lo n) ρ) PS X := by
  refine ws_forL (J := fun ds ρ => ∃ k, k ≤ n ∧ ds = ((List.range n).drop k).map (fun m => D.int (lo + (m : Nat))) ∧ J k ρ) ?_ ?_ _ _ ⟨0, Nat.zero_le _, rfl, h⟩
  · rintro d ds ρ ⟨k, hk, e, j⟩
    by_cases hk' : k < n
    · have hl : k < (List.range n).length := by rw [List.length_range]; exact hk'
      rw [List.drop_eq_getElem_cons hl, List.map_cons, List.getElem_range] at e
      cases e
      refine ⟨_, rfl, (turn k ρ hk' j).imp (fun fl ρ2 q => ?_) fun _ _ x => x⟩
      cases fl with
      | nx => exact ⟨k + 1, hk', rfl, q⟩
      | ct => exact ⟨k + 1, hk', rfl, q⟩
      | bk => exact q
      | rt d => exact q
    · rw [List.drop_eq_nil_of_le (by rw [List.length_range]; omega)] at e
      cases e
  · rintro ρ ⟨k, hk, e, j⟩
    have : ((List.range n).drop k).length = 0 := by
      have := congrArg List.length e
      simpa using this.symm
    rw [List.length_drop, List.length_range] at this
    have hk : k = n := by omega
    subst hk
    exact last ρ j
end
theorem cutD_take {α : Type} (xs : List α) {i : Int} {k : Nat} (e : i = (k : Nat)) : cutD xs none (some i) = xs.take k := by
  subst e
  unfold cutD
  rw [HT.sIx_none, HT.sIx_nat, List.drop_zero, Nat.sub_zero]
  by_cases h : k ≤ xs.length
  · rw [Nat.min_eq_left h]
  · rw [Nat.min_eq_right (by omega), List.take_of_length_le (Nat.le_refl _), List.take_of_length_le (by omega)]
theorem cutD_drop {α : Type} (xs : List α) {i : Int} {k : Nat} (e : i = (k : Nat)) : cutD xs (some i) none = xs.drop k := by
  subst e
  unfold cutD
  rw [HT.sIx_none, HT.sIx_nat]
  by_cases h : k ≤ xs.length
  · rw [Nat.min_eq_left h, List.take_of_length_le (by rw [List.length_drop]; exact Nat.le_refl _)]
  · rw [Nat.min_eq_right (by omega), List.drop_of_length_le (Nat.le_refl _), List.drop_of_length_le (by omega), List.take_nil]
theorem rng_fits {k : Nat} (h : k ≤ 16777216) : -(2 ^ 62) ≤ (k : Int) ∧ (k : Int) < 2 ^ 62 := by
  have a : (-(2 ^ 62) : Int) ≤ 0 := by decide
  have b : (16777216 : Int) < 2 ^ 62 := by decide
  generalize (-(2 ^ 62) : Int) = p at *
  generalize ((2 ^ 62) : Int) = q at *
  omega
theorem wg_rngN {I : Store → Prop} {X : XP} {PL : List D → Prop} {k : Nat} (hk : k ≤ 16777216) (h : PL (rngD 0 k)) : Wp I (rng1 (.int k)) PL X := by
  have h' : PL (rngD 0 (k : Int).toNat) := by rw [Int.toNat_natCast]; exact h
  with_reducible exact wg_rng1 (rng_fits hk) h'
theorem ints_of {Q : Int → Prop} : ∀ {ys : List D}, (∀ y ∈ ys, ∃ i, y = D.int i ∧ Q i) → ∃ xs : List Int, ys = xs.map D.int ∧ ∀ x ∈ xs, Q x
  | [], _ => ⟨[], rfl, fun _ h => by cases h⟩
  | y :: ys, h => by
    obtain ⟨i, rfl, hi⟩ := h y List.mem_cons_self
    obtain ⟨xs, e, a⟩ := ints_of fun z hz => h z (List.mem_cons_of_mem _ hz)
    refine ⟨i :: xs, by rw [List.map_cons, e], fun x hx => ?_⟩
    rcases List.mem_cons.mp hx with rfl | hx
    · exact hi
    · exact a x hx
theorem rngD_len (lo : Int) (n : Nat) : (rngD lo n).length = n := by unfold rngD; rw [List.length_map, List.length_range]
theorem atI_nat {α : Type} {xs : List α} {k : Nat} {i : Int} (e : i = (k : Nat)) (h : k < xs.length) : atI xs i = some xs[k] := by
  subst e
  unfold atI ixN
  rw [if_pos (by omega), if_pos (by omega)]
  exact List.getElem?_eq_getElem (by omega)

/-! ### isinstance by kinds -/
def isIntB : D → Bool
  | .int _ => true
  | .bl _ => true
  | _ => false
def isBl : D → Bool
  | .bl _ => true
  | _ => false
def isTup : D → Bool
  | .tup _ => true
  | _ => false
def isStr : D → Bool
  | .str _ => true
  | _ => false
def Ty (d : D) : Prop := ∃ t, tyD d = some t
theorem isi_tab : (∀ t, isiD "int" t = (t == "int" || t == "bool")) ∧ (∀ t, isiD "bool" t = (t == "bool")) ∧ (∀ t, isiD "tuple" t = (t == "tuple")) ∧ (∀ t, isiD "str" t = (t == "str")) := by
  refine ⟨fun t => ?_, fun t => ?_, fun t => ?_, fun t => ?_⟩ <;> unfold isiD <;> simp
theorem isi_int {d : D} {t : String} (h : tyD d = some t) : isiD "int" t = isIntB d := by rw [isi_tab.1]; cases d <;> cases h <;> simp [isIntB]
theorem isi_bool {d : D} {t : String} (h : tyD d = some t) : isiD "bool" t = isBl d := by rw [isi_tab.2.1]; cases d <;> cases h <;> simp [isBl]
theorem isi_tuple {d : D} {t : String} (h : tyD d = some t) : isiD "tuple" t = isTup d := by rw [isi_tab.2.2.1]; cases d <;> cases h <;> simp [isTup]
theorem isi_str {d : D} {t : String} (h : tyD d = some t) : isiD "str" t = isStr d := by rw [isi_tab.2.2.2]; cases d <;> cases h <;> simp [isStr]
section
variable {I : Store → Prop} {X : XP} {P : D → Prop} {d : D}
theorem wg_isInt (h : Ty d) (q : P (.bl (isIntB d))) : Wp I (gIsi "int" d) P X := by obtain ⟨t, ht⟩ := h; exact wg_isi ht (by rw [isi_int ht]; exact q)
theorem wg_isBool (h : Ty d) (q : P (.bl (isBl d))) : Wp I (gIsi "bool" d) P X := by obtain ⟨t, ht⟩ := h; exact wg_isi ht (by rw [isi_bool ht]; exact q)
theorem wg_isTuple (h : Ty d) (q : P (.bl (isTup d))) : Wp I (gIsi "tuple" d) P X := by obtain ⟨t, ht⟩ := h; exact wg_isi ht (by rw [isi_tuple ht]; exact q)
theorem wg_isStr (h : Ty d) (q : P (.bl (isStr d))) : Wp I (gIsi "str" d) P X := by obtain ⟨t, ht⟩ := h; exact wg_isi ht (by rw [isi_str ht]; exact q)
end
/-! ### texts -/
def FineS (n : Nat) (z : Str) : Prop := z.cps.toList.length ≤ n ∧ ∀ c ∈ z.cps.toList, c < 128
def FineD (d : D) : Prop := (∃ t, tyD d = some t) ∧ ∀ z, d = .str z → FineS 1000 z
theorem len_cps (z : Str) : z.cps.toList.length = z.length := by first | rfl | simp [Str.length]
theorem FineS.le {n m : Nat} {z : Str} (h : FineS n z) (i : n ≤ m) : FineS m z := ⟨Nat.le_trans h.1 i, h.2⟩
theorem FineS.len {n : Nat} {z : Str} (h : FineS n z) : z.length ≤ n := by have := h.1; rw [len_cps] at this; exact this
theorem FineS.ok {n : Nat} {z : Str} (h : FineS n z) : PyData.strOk z = true := by
  unfold PyData.strOk
  rw [Array.all_eq_true_iff_forall_mem]
  intro c hc
  have := h.2 c (Array.mem_toList_iff.mpr hc)
  exact decide_eq_true (by omega)
theorem FineS.append {n m : Nat} {x y : Str} (h : FineS n x) (h' : FineS m y) : FineS (n + m) (x ++ y) := by
  have e : (x ++ y).cps.toList = x.cps.toList ++ y.cps.toList := tl_append x y
  refine ⟨?_, fun c hc => ?_⟩
  · rw [e, List.length_append]; exact Nat.add_le_add h.1 h'.1
  · rw [e] at hc
    exact (List.mem_append.mp hc).elim (h.2 c) (h'.2 c)
theorem FineS.cut {n : Nat} {z : Str} (h : FineS n z) (lo hi : Option Int) : FineS n (cutS z lo hi) := by
  refine ⟨?_, fun c hc => h.2 c ?_⟩
  · show List.length (List.take _ (List.drop _ _)) ≤ n
    have := h.1
    simp only [List.length_take, List.length_drop]
    omega
  · exact List.mem_of_mem_drop (List.mem_of_mem_take hc)
theorem FineS.upper {n : Nat} {z : Str} (h : FineS n z) : FineS n (Txt.upper z) := by
  rw [upper_ascii h.2]
  refine ⟨?_, fun c hc => ?_⟩
  · show (Array.map up1 z.cps).toList.length ≤ n
    rw [Array.toList_map, List.length_map]; exact h.1
  · have hc : c ∈ (Array.map up1 z.cps).toList := hc
    rw [Array.toList_map] at hc
    obtain ⟨a, ha, rfl⟩ := List.mem_map.mp hc
    have := h.2 a ha
    unfold up1
    split <;> omega
theorem FineS.one {c : Nat} (h : c < 128) : FineS 1 ⟨#[c]⟩ := ⟨Nat.le_refl 1, fun x hx => by rcases List.mem_singleton.mp hx with rfl; exact h⟩
theorem joinL_nil : ∀ ys : List (List Nat), joinL [] ys = ys.flatten
  | [] => rfl
  | [p] => by simp [joinL]
  | p :: q :: r => by unfold joinL; rw [joinL_nil (q :: r)]; rfl
theorem tl_join0 (ys : List Str) : (Txt.join "" ys).cps.toList = (ys.map tl).flatten := by
  have := tl_join "" ys
  rw [join_eq]
  exact this.trans (joinL_nil _)
theorem sum_ones : ∀ {ys : List Str}, (∀ y ∈ ys, y.length = 1) → (ys.map (·.length)).sum = ys.length
  | [], _ => rfl
  | y :: ys, h => by
    rw [List.map_cons, List.sum_cons, h y List.mem_cons_self, sum_ones fun z hz => h z (List.mem_cons_of_mem _ hz), List.length_cons]
    omega
theorem FineS.join : ∀ {ys : List Str}, (∀ y ∈ ys, FineS 1 y) → FineS ys.length (Txt.join "" ys) := fun {ys} h => by
  unfold FineS
  rw [tl_join0]
  induction ys with
  | nil => exact ⟨Nat.le_refl 0, fun c hc => by cases hc⟩
  | cons y ys ih =>
    obtain ⟨a, b⟩ := ih fun z hz => h z (List.mem_cons_of_mem _ hz)
    have hy := h y List.mem_cons_self
    rw [List.map_cons, List.flatten_cons]
    refine ⟨?_, fun c hc => ?_⟩
    · rw [List.length_append, List.length_cons]
      have : (tl y).length ≤ 1 := hy.1
      omega
    · exact (List.mem_append.mp hc).elim (hy.2 c) (b c)
end DN
/-! DX: raising own exceptions, and a def that calls what it got and tells whether an own exception came. -/
namespace DN
open PySem PySem.Spec PyProof.Rows L2

/-- an own class of exceptions over ValueError, made of one text -/
structure ExV (K : PySem.W.Frag) (mg : Str → Option Value) (cl : Cls_) (x : Str) (C : Addr) : Prop where
  ex : PySem.W.excIn K C [.type "ValueError", .type "Exception", .type "BaseException", .type "object"] "ValueError.__new__" = true
  g : mg x = some (.ref C)
  k : PySem.W.keepIn K (.ref C) = true
  s : PySem.W.subIn K (.ref C) (.type "BaseException") = some true
  t : PySem.W.typeIn K (.ref C) = some (.type "type")
  c : cl.at_ x = some C
def cRaise (c : Str) : Sm := fun ρ S => .exc c [] ρ S
section
variable {X : Cx} {cl : Cls_} {E : WX}
theorem ds_raise {x m : Str} {C : Addr} {j : Nat} {p p2 pos rpos : Pos} (V : ExV X.K X.mg cl x C) (hc : X.calm = true) (tk : Takes X E) (hg : Gl X x := by rfl) (hdb : (x == ("__debug__" : Str)) = false := by decide) :
    DS X cl E (.Raise (some (.Call (.Name x p) [.Constant (.str m) j p2] [] pos)) none rpos) (cRaise x) :=
  ps_imp (ps_raise hc tk (pmk_own PySem.F.excBase_ValueError V.ex V.g V.k (raises_own V.s V.t) hg hdb)) fun Dn σ H ⟨W0, H0, W, S, ρ, own, ev, h⟩ =>
    h W H σ own (.ref C) none Lw.refl ev ⟨C, V.c, rfl, .inl ⟨rfl, rfl⟩⟩
end

/-! ### a def with a table of code objects -/
structure FunC (K : PySem.W.Frag) (x qual : Str) (st : Stmt) (f : Addr) (fd : FuncData) (c : Addr) : Prop where
  ex : ∃ (oc : Value) (od : Option Addr) (kV doc pm : Value) (an : Option Addr) (ct : Value) (osl : Array (Option Value)),
    fd = PySem.W.fnOf x qual (defArgs st) (defBody st) (defScope st) .none kV doc pm an (.ref c) ct ∧ K.lookup f = some ⟨oc, od, .func fd, osl⟩ ∧ PySem.W.codeIn K (.ref c) qual = true
section
variable {P : Program} {w : World} {K : PySem.W.Frag} {mg : Str → Option Value} {base : Heap} {cl : Cls_}
theorem fn_Dc {x qual : Str} {st : Stmt} {f c : Addr} {fd : FuncData} {N ps : List Str} {k : Nat} {body : Sm} (F : FunC K x qual st f fd c) (S : FnScope N ps (defScope st))
    (hb : ∀ (A : Around) (outer : List PySem.Env) (s : Shared) (H : Hp) (E : XK), Room k (A.deeper (envOfC qual (defScope st) s.heap.objs.size f (.ref c))) → DSs (cxD P w K mg base N qual st f (.ref c) A outer s H E) cl (fun c d _ H => E c d H) (defBody st) body) :
    FnD P w K mg base cl (k + 1) f fd ps (runF ps.length N.length body) := by
  obtain ⟨oc, od, kV, doc, pm, an, ct, osl, rfl, lk, hcd⟩ := F.ex
  refine fn_of lk hcd S (fun vs H Q E ⟨W, S, ds, _, _, r, e, _⟩ => r.length.trans e) fun A outer s H vs Q E hr ⟨W, S, ds, w0, s0, r, e, h⟩ => ⟨_, hb A outer s H E hr, ?_⟩
  refine ⟨W, H, W, S, _, _, ev_start N w0 s0 r rfl, ?_⟩
  have h : Po ⟨K, cl⟩ (fun c d _ H => E c d H) [] W H (runF ps.length N.length body ds S) (RV ⟨K, cl⟩ Q) := h
  unfold runF at h
  rw [if_pos e, ← e] at h
  cases q : body (ds.map Sl.val ++ List.replicate (N.length - ds.length) Sl.un) S with
  | bad => rw [q] at h; exact h.elim
  | exc c fs ρ' S' =>
    rw [q] at h
    exact fun W' H' σ' own' cls dd l' e' x => h W' H' cls dd e'.le e'.wk e'.st x
  | go fl ρ' S' =>
    rw [q] at h
    intro W' H' σ' own' l' e'
    cases fl with
    | nx => exact h W' H' e'.le e'.wk e'.st _ .non
    | rt d => exact fun v rv => h W' H' e'.le e'.wk e'.st v rv
    | bk => exact h.elim
    | ct => exact h.elim
end

/-! ### x(lambda: e) : whether an own exception came -/
def cMet (c0 : Str) (fe : Env → M D) : Env → M D := fun ρ S => match fe ρ S with
  | .ok _ S' => .ok (.bl false) S'
  | .exc c fs S' => if c = c0 ∧ fs.isEmpty = true then .ok (.bl true) S' else .bad
  | .bad => .bad
/-- behind the making of a lambda -/
theorem Ev.lam {G : Gx} {W0 W : Wd} {H0 H H1 : Hp} {S : Store} {σ : L2.St} {ρ : Env} {own : Nat → Option Addr} (e : Ev G W0 H0 W H S σ ρ own) (x : LamX.ExtN H H1) (t : LamX.Tabs G.cl.T H1) : Le W H W H1 ∧ Ev G W0 H0 W H1 S σ ρ own := by
  have le : Le W H W H1 := ⟨fun _ _ h => h, fun _ _ h => .inl h, fun _ h => h, fun _ h => .inl h, fun b o h n => .inr (x b o h n)⟩
  have wk : WOk W H1 := ⟨fun a h => let ⟨o, q, n⟩ := e.wk.tr a h; ⟨o, x a o q n, n⟩, e.wk.rg, e.wk.ij⟩
  have lw := le.lw e.wk
  have st : StOk G W H1 S := by
    refine ⟨fun n c h => ?_, e.st.top, t⟩
    obtain ⟨a, h1, h2⟩ := e.st.at_ n c h
    refine ⟨a, h1, ?_⟩
    cases c with
    | lst ds => obtain ⟨vs, q, r⟩ := h2; exact ⟨vs, x _ _ q (by intro _ z; cases z), r.mono lw⟩
    | dct ds => obtain ⟨vs, q, r⟩ := h2; exact ⟨vs, x _ _ q (by intro _ z; cases z), r.mono lw⟩
    | ins c ds => obtain ⟨C, dx, vs, e, q, r⟩ := h2; exact ⟨C, dx, vs, e, x _ _ q (by intro _ z; cases z), r.mono lw⟩
  exact ⟨le, e.mono le wk st⟩
def TTmet (K : PySem.W.Frag) (CS : Addr) : (XK → Hp → VK → Prop) → Hp → VK → Prop := fun tl H Q =>
  tl (fun cls d H' => cls = .ref CS ∧ d = none ∧ Q (.bl true) H') H (fun _ H' => Q (.bl false) H')
section
variable {X : Cx}
/-- try: a() / except e as n: return isinstance(n, b) / return False -/
theorem met_gives {Ng : List Str} {x a e n b q : Str} {sg : Scope} {g CS CB : Addr} {cdg : Value} {j : Nat} {p1 p2 p3 p4 p5 p6 p7 p8 p9 p10 p11 p12 p13 : Pos} (hge : sg.names.lookup e = some .globalImplicit) (hme : X.mg e = some (.ref CS)) (hde : (e == ("__debug__" : Str)) = false)
    (hgb : sg.names.lookup b = some .globalImplicit) (hmb : X.mg b = some (.ref CB)) (hdb : (b == ("__debug__" : Str)) = false) (hgi : sg.names.lookup ("isinstance" : Str) = some .globalImplicit) (hmi : X.mg "isinstance" = none) (hN : Ng = [a, n]) (hnd : Ng.Nodup)
    (hln : sg.names.lookup n = some .local) (hvn : Vis sg n) (hdn : (n == ("__debug__" : Str)) = false) (hcn : (n == ("__classdict__" : Str)) = false) (C : ExcC X.K CS) (one : PySem.W.exmOne X.K (.ref CS) (.ref CS) = some true) (kit : PySem.W.kitOne X.K (.ref CS) (.ref CB) = some true)
    (sw : ∀ Z : Cx, swapsWith (.Call (.Name a p1) [] [] p2) none p3.line Z.env = pure false) :
    LamX.GivesTo X Ng x sg g cdg [.Try [.Expr (.Call (.Name a p1) [] [] p2) p3] [.ExceptHandler (some (.Name e p4)) (some n) [.Return (some (.Call (.Name "isinstance" p5) [.Name n p6, .Name b p7] [] p8)) p9] p10] [] [] p11, .Return (some (.Constant (.bool false) j p12)) p13] a q (TTmet X.K CS) := by
  intro f c' s H Q tl act hc h
  subst hN
  have hgl : Gl (cxOf C8.CX0 X.prog X.w X.K X.mg X.base [a, n] x sg g cdg X.A X.stack s H C8.E0).nox e := hge
  refine ⟨_, pss_cons (ps_try_as (X := (cxOf C8.CX0 X.prog X.w X.K X.mg X.base [a, n] x sg g cdg X.A X.stack s H C8.E0).nox) (c := .ref CS) (i := 1)
      (tb := fun W D σ H => ∃ Ech : XK, (∀ cls d σ' H', Ech cls d H' → W cls d σ' H') ∧ σ[0]? = some (some (.ref f)) ∧ H c' = some (LamX.CodeO c' q) ∧ tl Ech H (fun _ H' => D.nx σ H'))
      (ts := fun ea cls d D σ H => cls = .ref CS ∧ d = none ∧ (1 < σ.length → σ[1]? = some (some (.ref ea))) ∧ D.rt (.bl true) H)
      rfl rfl hnd rfl hln ⟨hgl, hde, .inl hme⟩ LamX.takes0 (fun W pn xe tk _ => ?_) (fun ea oe cls d pn hz hf => ?_)) (pss_one (ps_ret pe_bl)), ?_⟩
  · refine ⟨fun pins s' σ H' D I h' => ?_⟩
    obtain ⟨Ech, hW, h1, h2, h3⟩ := h'
    have hp := act W pn xe Ech p1 p2 tk hW
    exact (pss_one (ps_expr (pos := p3) hp (sw _))).run pins s' σ H' D I ⟨h1, h2, h3⟩
  · refine ⟨fun pins s' σ H' D I h' => ?_⟩
    obtain ⟨e1, e2, h3, h4⟩ := h'
    subst e1 e2
    have len : σ.length = 2 := I.len
    have slot := h3 (by omega)
    have ci := call_isE (X := (cxOf C8.CX0 X.prog X.w X.K X.mg X.base [a, n] x sg g cdg X.A X.stack s H C8.E0).nox) (pn := pn) (a := ea) C hz hf
    have pv : PE ((cxOf C8.CX0 X.prog X.w X.K X.mg X.base [a, n] x sg g cdg X.A X.stack s H C8.E0).nox.suite ea ((ea, oe) :: pn)) (.Name n p6) (tVar 1) := pe_var (i := 1) rfl hvn hdn hcn
    have pb : PE ((cxOf C8.CX0 X.prog X.w X.K X.mg X.base [a, n] x sg g cdg X.A X.stack s H C8.E0).nox.suite ea ((ea, oe) :: pn)) (.Name b p7) (tC (.ref CB)) := C8.pe_gc hgb ⟨_, hmb, rfl⟩ hdb
    have pc := pe_callB (p := p5) (pos := p8) ci hgi hmi (by decide +kernel) (pa_cons pv (pa_cons pb pa_nil (by rfl)) (by rfl)) (by decide) (by decide) (by rfl) (by rfl)
    exact (pss_one (ps_ret (pos := p9) pc)).run pins s' σ H' D I ⟨.ref ea, slot, .ref CB, .ref CB, true, rfl, fun u r => r, kit, h4⟩
  · refine ⟨fun cls d H' => cls = .ref CS ∧ d = none ∧ Q (.bl true) H', fun cls d σ' H' ⟨e1, e2, e3⟩ => ?_, rfl, hc, h⟩
    subst e1 e2
    refine ⟨true, one, fun _ a ha => ⟨rfl, rfl, fun hl => ?_, e3⟩, fun z => (nomatch z)⟩
    exact List.getElem?_set_self (by rw [List.length_set] at hl; exact hl)
end
/-- the def that calls what it got, as it stands in the module -/
structure MetD (X : Cx) (x : Str) (CS : Addr) : Prop where
  ex : ∃ (a : Str) (g : Addr) (pg : Arguments) (bg : List Stmt) (sg : Scope) (dV kV doc pm cdv ct oc : Value) (an od : Option Addr) (osl : Array (Option Value)) (Ng : List Str),
    X.mg x = some (.ref g) ∧ PySem.W.keepIn X.K (.ref g) = true ∧ X.K.lookup g = some ⟨oc, od, .func (PySem.W.fnOf x x pg bg sg dV kV doc pm an cdv ct), osl⟩ ∧ PySem.W.codeIn X.K cdv x = true ∧
    L2.Binds X.K (PySem.W.fnOf x x pg bg sg dV kV doc pm an cdv ct) [a] [] ∧ FnScope Ng [a] sg ∧ Ng[0]? = some a ∧ Vis sg a ∧ (a == ("__debug__" : Str)) = false ∧ (a == ("__classdict__" : Str)) = false ∧ (∀ q, LamX.GivesTo X Ng x sg g cdv bg a q (TTmet X.K CS))
theorem de_met {X : Cx} {cl : Cls_} {E : WX} {x c0 : Str} {CS c P : Addr} {k : Nat} {params : Arguments} {body : Expr} {scope : Scope} {p lpos pos : Pos} {fe : Env → M D} (D0 : MetD X x CS) (hcs : cl.at_ c0 = some CS) (TB : LamX.TabB X.base X.mg c P) (hcode : X.env.code = .ref c)
    (hmT : (P, X.env.qual ++ "<lambda>") ∈ cl.T) (hu : ∀ p ∈ cl.T, p.1 = P → p.2 = X.env.qual ++ "<lambda>") (hr : Room (k + 2) X.A) (L : LamX.LamS X.env.scope scope)
    (hbody : ∀ (A : Around) (outer : List PySem.Env) (s : Shared) (H : Hp) (E : XK) (f c' : Addr), Room k (A.deeper (LamX.lamEnv X scope s.heap.objs.size f c')) → DE (LamX.lamCx X A outer s H E scope f c') cl (fun c d _ H => E c d H) body fe)
    (hdef : defaultsOf params X.env = ([], []) := by rfl) (hbind : ∀ (q : Str) (cl : List (Str × Addr)) (pm cv ctv : Value), bindArgs (PySem.W.kla_fn "<lambda>" q params body scope cl pm cv ctv) ⟨[], []⟩ = pure [] := by intros; rfl)
    (hg : Gl X x := by rfl) (hdb : (x == ("__debug__" : Str)) = false := by decide) :
    DE X cl E (.Call (.Name x p) [.Lambda params body scope lpos] [] pos) (cMet c0 fe) := by
  obtain ⟨a, g, pg, bg, sg, dV, kV, doc, pm, cdv, ct, oc, an, od, osl, Ng, m1, m2, m3, m4, m5, m6, m7, m8, m9, m10, m11⟩ := D0.ex
  refine pe_imp (LamX.pe_lamcall (T := cl.T) (t := fun E => tE ⟨X.K, cl⟩ (fun c d _ H => E c d H) fe) hg m1 m2 m3 m4 m5 m6 m7 m8 (m11 _) TB hcode hmT hu hr L hdef hbind hbody hdb m9 m10) fun σ H Q ⟨W0, H0, W, S, ρ, own, ev, h⟩ => ?_
  refine ⟨ev.st.tb, fun H1 x1 t1 => ?_⟩
  obtain ⟨le, ev1⟩ := ev.lam x1 t1
  have h := Po.step ev.wk le h
  refine ⟨W0, H0, W, S, ρ, own, ev1, ?_⟩
  have h : Po ⟨X.K, cl⟩ E σ W H1 (cMet c0 fe ρ S) (RV ⟨X.K, cl⟩ Q) := h
  unfold cMet at h
  cases q : fe ρ S with
  | bad => rw [q] at h; exact h.elim
  | ok d S' =>
    rw [q] at h
    exact fun W' H' l w s v _ => h W' H' l w s _ (.bl false)
  | exc cc fs S' =>
    rw [q] at h
    by_cases e : cc = c0 ∧ fs.isEmpty = true
    · have h3 : Po ⟨X.K, cl⟩ E σ W H1 (if cc = c0 ∧ fs.isEmpty = true then Res.ok (D.bl true) S' else Res.bad) (RV ⟨X.K, cl⟩ Q) := h
      rw [if_pos e] at h3
      clear h
      obtain ⟨e, ef⟩ := e
      subst e
      intro W' H' cls dd l w s ⟨C, e1, e2, e3⟩
      have e1 : cl.at_ cc = some C := e1
      rw [hcs] at e1
      cases e1
      refine ⟨e2, ?_, h3 W' H' l w s _ (.bl true)⟩
      rcases e3 with ⟨_, e3⟩ | ⟨e3, _⟩
      · exact e3
      · exact absurd (List.isEmpty_iff.mp ef) e3
    · have h : Po ⟨X.K, cl⟩ E σ W H1 (if cc = c0 ∧ fs.isEmpty = true then Res.ok (D.bl true) S' else Res.bad) (RV ⟨X.K, cl⟩ Q) := h
      rw [if_neg e] at h
      exact h.elim
structure FdC (K : PySem.W.Frag) (mg : Str → Option Value) (x qual : Str) (st : Stmt) (ps : List Str) (c : Addr) : Prop where
  ex : ∃ f fd, FunC K x qual st f fd c ∧ mg x = some (.ref f) ∧ PySem.W.keepIn K (.ref f) = true ∧ Binds K fd ps []
theorem FdC.cal {P : Program} {w : World} {K : PySem.W.Frag} {mg : Str → Option Value} {base : Heap} {cl : Cls_} {x qual : Str} {st : Stmt} {N ps : List Str} {c : Addr} {k : Nat} {body : Sm} (F : FdC K mg x qual st ps c) (S : FnScope N ps (defScope st))
    (hb : ∀ (f : Addr) (A : Around) (outer : List PySem.Env) (s : Shared) (H : Hp) (E : XK), Room k (A.deeper (envOfC qual (defScope st) s.heap.objs.size f (.ref c))) → DSs (cxD P w K mg base N qual st f (.ref c) A outer s H E) cl (fun c d _ H => E c d H) (defBody st) body) :
    Cal P w K mg base cl x (k + 1) ps (runF ps.length N.length body) := by
  obtain ⟨f, fd, F, m, kp, b⟩ := F.ex
  exact ⟨f, fd, fn_Dc F S fun A outer s H E hr => hb f A outer s H E hr, m, kp, b⟩
/-! ### {x: n}, the key a tuple of ints: a dict, of which nothing else is kept -/
theorem pe_dict1 {X : Cx} {i : Nat} {x : Str} {n : Int} {j : Nat} {p1 p2 pos : Pos} (hu : X.A.units + 64 < cLine) (hk : PE X (.Name x p1) (tVar i)) : PE X (.Dict [some (.Name x p1)] [.Constant (.int n) j p2] pos) (fun σ H Q => ∃ (a : Addr) (ns : List Int), σ[i]? = some (some (.ref a)) ∧ SqT X.K H a (ns.map V.int) ∧ ∀ p, H p = none → Q (.ref p) (upd H p (OpqO p))) := by
  refine ⟨fun pins s σ H Q I ⟨a, ns, hs, hT, q⟩ => ?_⟩
  have fresh := I.hok.fresh (Nat.le_refl s.heap.objs.size)
  have I1 := I.laid (a := s.heap.objs.size) (o := .dK []) (h' := s.heap.push { cls := .type "dict", data := .dict #[] }) (t' := s.toks) (fun _ _ z => Heap.get?_push_of_some _ z) (Nat.le_refl _) (dk_empty s.heap I.big)
  have pp : PPs X pos [some (.Name x p1)] [.Constant (.int n) j p2] [(tVar i, tC (.int n))] := pps_cons hk pe_int pps_nil
  refine wpAny_Dict_pairsH (knd := TK X.prog X.w) (pairs := pairTrees [some (.Name x p1)] [.Constant (.int n) j p2] X.env pos) (by show X.A.units < cLine; omega) (zip_pairTrees _ _ X.env pos (by rfl) (by rfl)) (by intro z; have := congrArg List.length z; simp [pairTrees] at this) (by simp [pairTrees]) ?_
  refine thn (pp.run pins _ σ _ (fun ps H' => ps = [(.ref a, .int n)] ∧ H' = upd H s.heap.objs.size (.dK [])) I1 ⟨.ref a, hs, rfl, rfl⟩) fun vs s2 ⟨ps, H2, I2, rel, ep, eH⟩ => ?_
  subst ep eH
  obtain ⟨u, w2, rfl, ru, rw2⟩ : ∃ u w2, vs = [(u, w2)] ∧ RelV (.ref a) u ∧ RelV (.int n) w2 := by
    cases rel with
    | cons h t => cases t; exact ⟨_, _, rfl, h.1, h.2⟩
  cases ru
  have sm : Same H (upd H s.heap.objs.size (.dK [])) := Same.new fresh
  have kT : SqT X.K (upd H s.heap.objs.size (.dK [])) a (ns.map V.int) := by
    rcases hT with h | h
    · rcases h with h | ⟨o, h⟩
      · exact .inl (.inl (sm _ _ h))
      · exact .inl (.inr ⟨o, sm _ _ h⟩)
    · exact .inr h
  obtain ⟨z, hd, vs0, r0, dd⟩ := dk_of I2.hok (show upd H s.heap.objs.size (.dK []) s.heap.objs.size = some (.dK []) from upd_same)
  cases r0
  refine ⟨[(ns, a, w2)], ⟨rfl, rfl, I2.isT kT, trivial⟩, ?_, fun h' tk dd' hsame => ?_⟩
  · obtain ⟨o, es, ep, e1, e2, e3, _, e5, _⟩ := dd
    have e4 : es.toList = [] := by
      cases h : es.toList with
      | nil => rfl
      | cons a b => rw [h] at e5; first | cases e5 | exact (show False from e5).elim
    exact ⟨o, es, ep, e1, e2, e3, e4, fun _ h => (by cases h), List.Pairwise.nil⟩
  · obtain ⟨xs, ⟨o, es, ep, e1, e2, _⟩, _⟩ := dd'
    have W2 := d_write (t' := tk) (ob := OpqO s.heap.objs.size) I2 (by rw [upd_same]; exact True.intro) hsame ⟨o, e1⟩ ⟨⟨o, e1, e2.1⟩, ⟨o, e1⟩, fun h1 h2 ⟨o, a, b⟩ st => ⟨o, st _ a, b⟩⟩
    have eu : upd (upd H s.heap.objs.size (.dK [])) s.heap.objs.size (OpqO s.heap.objs.size) = upd H s.heap.objs.size (OpqO s.heap.objs.size) := by
      funext b
      by_cases hb : b = s.heap.objs.size
      · subst hb; rw [upd_same, upd_same]
      · rw [upd_ne hb, upd_ne hb, upd_ne hb]
    rw [eu] at W2
    exact ⟨.ref s.heap.objs.size, _, W2, rfl, q _ fresh⟩
def tupIs : D → Bool
  | .tup ds => ds.all fun d => match d with | .int _ => true | _ => false
  | _ => false
/-- {x: n} -/
def cDict1 (i : Nat) : Env → M D := fun ρ S => match ρ[i]? with
  | some (.val d) => if tupIs d = true then .ok .opq S else .bad
  | _ => .bad
theorem ints_rp {G : Gx} {W : Wd} {H : Hp} : ∀ {ds : List D} {vs : List V}, RpA G W H vs ds → (ds.all fun d => match d with | .int _ => true | _ => false) = true → ∃ ns : List Int, vs = ns.map V.int
  | [], _, .nil, _ => ⟨[], rfl⟩
  | d :: ds, _, .cons r t, h => by
    rw [List.all_cons, Bool.and_eq_true] at h
    obtain ⟨ns, e⟩ := ints_rp t h.2
    cases d with
    | int i => cases r; exact ⟨i :: ns, by rw [e]; rfl⟩
    | _ => cases h.1
theorem de_dict1 {X : Cx} {cl : Cls_} {E : WX} (i : Nat) {x : Str} {n : Int} {j : Nat} {p1 p2 pos : Pos} (hu : X.A.units + 64 < cLine) (hk : PE X (.Name x p1) (tVar i)) : DE X cl E (.Dict [some (.Name x p1)] [.Constant (.int n) j p2] pos) (cDict1 i) := by
  refine pe_imp (pe_dict1 hu hk) fun σ H Q ⟨W0, H0, W, S, ρ, own, ev, h⟩ => ?_
  have h : Po ⟨X.K, cl⟩ E σ W H (cDict1 i ρ S) (RV ⟨X.K, cl⟩ Q) := h
  unfold cDict1 at h
  cases q : ρ[i]? with
  | none => rw [q] at h; exact h.elim
  | some sl =>
    rw [q] at h
    cases sl with
    | un => exact h.elim
    | own xs => exact h.elim
    | adr _ => exact h.elim
    | val d =>
      obtain ⟨v, hv, rv⟩ := ev.sl i d q
      cases d with
      | tup ds =>
        have h2 : Po ⟨X.K, cl⟩ E σ W H (if tupIs (.tup ds) = true then Res.ok D.opq S else Res.bad) (RV ⟨X.K, cl⟩ Q) := h
        by_cases c : tupIs (.tup ds) = true
        · rw [if_pos c] at h2
          cases rv with
          | @tup a vs _ ha ra =>
            obtain ⟨ns, e⟩ := ints_rp ra c
            subst e
            exact ⟨a, ns, hv, ha.sq, fun p hp => Po.new ev.wk ev.st h2 hp (.opq upd_same (ev.wk.free hp))⟩
        · rw [if_neg c] at h2
          exact h2.elim
      | _ => exact h.elim
end DN
/-! DY: the end of a law row with tables of code objects. -/
namespace DN
open PySem PySem.Spec PyProof.Rows L2 LamX
theorem law_spT {K : PySem.W.Frag} {cl : Cls_} {cs : List (Addr × Addr)} {F : List D → M D} {n : Nat} (hT : ∀ p ∈ cl.T, p.1 ∈ cs.map (·.2)) (main : ∀ ns : List Int, ns.length ≤ n → ∃ S', F [.scr ns] [] = .ok (.bl true) S') {H : Hp} {a : Addr} {ns : List Int} (hl : ns.length ≤ n)
    (hH : ∀ p ∈ cs, H p.2 = some (.tbl #[])) (hS : SqL K H a (ns.map V.int)) : spD ⟨K, cl⟩ 1 F [.ref a] H (fun v _ => v = .bl true) fun _ _ _ => False := by
  obtain ⟨S', e⟩ := main ns hl
  refine ⟨⟨fun _ => none, fun _ => False⟩, [], [.scr ns], ⟨fun _ h => h.elim, fun _ _ h => (nomatch h), fun _ _ _ h => (nomatch h)⟩, ⟨fun _ _ h => (nomatch h), fun _ _ => rfl, fun p hp => ?_⟩, .cons (.scr ?_) .nil, rfl, ?_⟩
  · obtain ⟨q, hq, eq⟩ := List.mem_map.mp (hT p hp)
    have := hH q hq
    rw [eq] at this
    exact TabS.nil this
  · rcases hS with h | h
    · exact .inl ⟨h, fun z => z⟩
    · exact .inr h
  · rw [e]
    intro W' H' l w s v rv
    cases rv; rfl
/-- what the law's module gives: the tables of its defs are empty -/
theorem walk_DT {l : PySem.W.OpenLaw} {n k : Nat} {q : Program} {loose : List Str} {XP : (Str → Option Value) → Heap → Prop} {YP : World → Heap → Prop} {d : DefRec} {K : Params → PySem.W.Frag} {F : List D → M D} (hn : l.most = some n) (hn2 : n ≤ sizeLine) (hdf : d.params.defaults = []) (hr : Room k callerA)
    (hY : ∀ (w : World) (h : Heap), YP w h → (K w.params).In h) (main : ∀ ns : List Int, ns.length ≤ n → ∃ S', F [.scr ns] [] = .ok (.bl true) S')
    (FF : ∀ (w : World) (mg : Str → Option Value) (fa : Addr) (h : Heap), (K w.params).In h → h.Ns mainGlobals mg → mg d.name = some (.ref fa) →
      (∀ (nm : Str) (f : Addr), ((recsOf q).any fun e => e.name == nm) = true → mg nm = some (.ref f) → OwnTab (K w.params) f h) →
      ∃ (fd : FuncData) (cs : List (Addr × Addr)) (cl : Cls_), (∀ p ∈ cs, h.get? p.2 = some { cls := .none, data := .fields #[] }) ∧ (∀ p ∈ cs, (K w.params).lookup p.2 = none) ∧ (∀ p ∈ cs, PySem.W.CodeHd h p.1 p.2) ∧ (∀ p ∈ cl.T, p.1 ∈ cs.map (·.2)) ∧
        (∀ (s : Shared) (u : Value), BindsTo s fd ⟨[u], []⟩ [("script", u)]) ∧ ∀ base : Heap, (K w.params).In base → base.Ns mainGlobals mg → (∀ p ∈ cs, TabB base mg p.1 p.2) → FnD l.prog w (K w.params) mg base cl k fa fd ["script"] F) :
    PySem.W.WalkO q loose XP YP l.row.toRowW d [] (fun f vs => PySem.call f vs) := by
  refine Att.attach_callB hn hdf fun w s₀ s₁ mg mb fa o pm cd doc a vs ns G Y ho hd hcd hmg hobj hints hlen hbits hg => ?_
  have KX := hY w _ Y
  have own : ∀ (nm : Str) (f : Addr), ((recsOf q).any fun e => e.name == nm) = true → mg nm = some (.ref f) → OwnTab (K w.params) f s₁.heap := by
    intro nm f hrec hnm c P o1 fd1 e dd vs1 sl k1 k2 k3 k4 k5
    obtain ⟨dL, hm, he⟩ := List.any_eq_true.mp hrec
    obtain ⟨a', o', fd', c', P', g1, g2, g3, g4, g5, ⟨oc, vc, u1, _, u3, u4⟩, hP⟩ := G.T.tab dL hm
    rw [beq_iff_eq.mp he, hnm] at g1
    cases g1
    have v1 := KX _ _ k1
    rw [v1] at g2
    cases g2
    rw [k2] at g3
    cases g3
    rw [k3] at g4
    cases g4
    have v2 := KX _ _ k4
    rw [v2] at u1
    cases u1
    cases u3
    rw [k5] at u4
    cases u4
    exact hP
  obtain ⟨fd, cs, cl, h1, h2, h3, h4, h5, h6⟩ := FF w mg fa _ KX G.T.g hmg own
  exact law_callTs KX G.T.g G.T.b G.T.builtins G.T.nolimit hg h1 h2 h3 G.T.bmain hobj hints (Nat.le_trans hlen hn2) hr h6 h5 (fun H hH hS => law_spT h4 main hlen hH hS) fun H e s' h => no_cx h
/-! ### what is asked of the written part -/
theorem kit_own {K : PySem.W.Frag} {t : Value} {B : Addr} (hd : PySem.W.hasDictIn K B = true) (ht : PySem.W.typeIn K (.ref B) = some (.type "type")) (hs : PySem.W.subIn K t (.ref B) = some true) : PySem.W.kitOne K t (.ref B) = some true := by
  obtain ⟨cd, hc, _⟩ := PySem.W.any_some hd
  have e2 : ((PySem.W.clsIn K B).isSome && PySem.W.typeIn K (.ref B) == some (.type "type")) = true := by rw [hc, ht]; rfl
  unfold PySem.W.kitOne PySem.W.kitCls
  by_cases e : (t == Value.ref B) = true
  · rw [if_pos e]
  · rw [if_neg e]
    show (if ((PySem.W.clsIn K B).isSome && PySem.W.typeIn K (.ref B) == some (.type "type")) = true then PySem.W.subIn K t (.ref B) else none) = some true
    rw [if_pos e2]
    exact hs
/-- the table that a code object's fields name -/
def tabV (vs : Array Value) : Option Addr := match (vs[11]? : Option Value) with
  | some (.ref P) => some P
  | _ => none
def codeV (vs : Array Value) : Bool := (match vs.getD 18 .none with | .str _ _ => true | _ => false) && (match vs.getD 7 .none with | .int _ _ => true | _ => false) && (match vs.getD 9 .none with | .bool _ => true | _ => false) && (match vs.getD 10 .none with | .int _ _ => true | _ => false)
theorem tabV_at {vs : Array Value} {P : Addr} (h : tabV vs = some P) : vs[11]? = some (.ref P) := by
  unfold tabV at h
  cases q : (vs[11]? : Option Value) with
  | none => rw [q] at h; cases h
  | some v =>
    rw [q] at h
    cases v with
    | ref a => cases h; rfl
    | _ => cases h
theorem codeHd_at {K : PySem.W.Frag} {c P : Addr} {ud : Option Addr} {vs : Array Value} {us : Array (Option Value)} (u : K.lookup c = some ⟨.type "code", ud, .fields vs, us⟩) (t : tabV vs = some P) (o : codeV vs = true) (ne : (c != P) = true) : PySem.W.codeHdIn K c P = true := by
  unfold PySem.W.codeHdIn
  rw [u]
  show ((match (vs[11]? : Option Value) with | some (.ref P') => P' == P | _ => false) && (match vs.getD 18 .none with | .str _ _ => true | _ => false) && (match vs.getD 7 .none with | .int _ _ => true | _ => false) && (match vs.getD 9 .none with | .bool _ => true | _ => false) && (match vs.getD 10 .none with | .int _ _ => true | _ => false) && c != P) = true
  rw [tabV_at t]
  unfold codeV at o
  simp only [Bool.and_eq_true] at o ⊢
  exact ⟨⟨⟨⟨⟨beq_self_eq_true P, o.1.1.1⟩, o.1.1.2⟩, o.1.2⟩, o.2⟩, ne⟩
end DN
/-! DQ: defs that want that no repr is under way (they call repr of lists): their promise, calls of them, the end of a law row. -/
namespace DN
open PySem PySem.Spec PyProof.Rows L2 LamX

/-- a def's promise where no guard is under way -/
structure FnG (P : Program) (w : World) (K : PySem.W.Frag) (mg : Str → Option Value) (base : Heap) (cl : Cls_) (k : Nat) (f : Addr) (fd : FuncData) (ps : List Str) (F : List D → M D) : Prop where
  run : ∀ (A : Around) (outer : List PySem.Env) (s : Shared) (H : Hp) (args : Args) (us : List Value) (vs : List V) (Q : VK) (E : XK), A.guards = some [] → Room k A → Env0 P w K mg base A outer s H → BindsTo s fd args (ps.zip us) → Vals vs us → spD ⟨K, cl⟩ ps.length F vs H Q E →
    codeAny (model P w) A (.call (.ref f) args) (CR (L2.CX P w) outer P w H s Q E) s
theorem spD_len {G : Gx} {n : Nat} {F : List D → M D} {vs : List V} {H : Hp} {Q : VK} {E : XK} (h : spD G n F vs H Q E) : vs.length = n := by
  obtain ⟨W, S, ds, _, _, r, e, _⟩ := h
  exact r.length.trans e
section
variable {P : Program} {w : World} {K : PySem.W.Frag} {mg : Str → Option Value} {base : Heap} {cl : Cls_}
theorem FnG.of {k : Nat} {f : Addr} {fd : FuncData} {ps : List Str} {F : List D → M D} (h : FnD P w K mg base cl k f fd ps F) : FnG P w K mg base cl k f fd ps F :=
  ⟨fun A outer s H args us vs Q E _ hr he hb hv hs => h.run A outer s H args us vs Q E hr he hb hv hs⟩
theorem fn_Gof {k : Nat} {f : Addr} {name qual : Str} {params : Arguments} {body : List Stmt} {scope : Scope} {dV kV doc pm cdv ct oc : Value} {an od : Option Addr} {osl : Array (Option Value)} {N ps : List Str} {sm : Sm}
    (lk : K.lookup f = some ⟨oc, od, .func (PySem.W.fnOf name qual params body scope dV kV doc pm an cdv ct), osl⟩) (hcd : PySem.W.codeIn K cdv qual = true) (S : FnScope N ps scope)
    (hb : ∀ (A : Around) (outer : List PySem.Env) (s : Shared) (H : Hp) (E : XK), (A.deeper (envOfC qual scope s.heap.objs.size f cdv)).guards = some [] → Room k (A.deeper (envOfC qual scope s.heap.objs.size f cdv)) → DSs (cxOf (L2.CX P w) P w K mg base N qual scope f cdv A outer s H E) cl (fun c d _ H => E c d H) body sm) :
    FnG P w K mg base cl (k + 1) f (PySem.W.fnOf name qual params body scope dV kV doc pm an cdv ct) ps (runF ps.length N.length sm) := by
  refine ⟨fun A outer s H args us vs Q E gu hr e0 hbd r hsp => ?_⟩
  have hl := spD_len hsp
  have KX : K.In s.heap := e0.mod.kin.keeps fun b o e => (e0.bs b o e).1
  have lim : s.heap.NoLimit := e0.mod.nolimit.keeps fun b o e => (e0.bs b o e).1
  have hkind : ∀ y ∈ ps.zip us, scope.names.lookup y.1 = some .local ∨ (scope.names.lookup y.1 = some .cell ∧ ((cellsFrom (s.heap.objs.size + 1) scope.names []).lookup y.1).isSome = true) := fun ⟨n, v⟩ hy => by
    rcases S.par n (List.of_mem_zip hy).1 with q | q
    · exact .inl q
    · exact .inr ⟨q, PySem.W.cellsFrom_some _ _ _ (.inl q)⟩
  refine codeAny_call_function hr.depth (KX _ _ lk) rfl S.co S.gen rfl (PySem.W.codeRec_of KX hcd) (hbd _ _ _ _ ?_)
  refine wpAny_newFunctionEnv_cells S.kind hkind fun env he s1 x => ?_
  subst he
  refine ⟨lim.keeps x.toInCall.keep, codeAny_func ?_⟩
  have I : Inv (cxOf (L2.CX P w) P w K mg base N qual scope f cdv A outer s H E) [] (start N vs) H s1 := inv_start S hr.hd e0 hl r x
  obtain ⟨W, S0, ds, w0, s0, rr, e, h⟩ := hsp
  have ht := hb A outer s H E gu (hr.deeper _)
  refine wpAny_mono (ht.run [] s1 (start N vs) H { nx := fun _ H' => Q .non H', rt := Q } I ?_) (fun fl s' hs => ?_) fun e s' hs => hs
  · refine ⟨W, H, W, S0, _, _, ev_start N w0 s0 rr rfl, ?_⟩
    have h : Po ⟨K, cl⟩ (fun c d _ H => E c d H) [] W H (runF ps.length N.length sm ds S0) (RV ⟨K, cl⟩ Q) := h
    unfold runF at h
    rw [if_pos e, ← e] at h
    cases q : sm (ds.map Sl.val ++ List.replicate (N.length - ds.length) Sl.un) S0 with
    | bad => rw [q] at h; exact h.elim
    | exc c fs ρ' S' =>
      rw [q] at h
      exact fun W' H' σ' own' cls dd l' e' x => h W' H' cls dd e'.le e'.wk e'.st x
    | go fl ρ' S' =>
      rw [q] at h
      intro W' H' σ' own' l' e'
      cases fl with
      | nx => exact h W' H' e'.le e'.wk e'.st _ .non
      | rt d => exact fun v rv => h W' H' e'.le e'.wk e'.st v rv
      | bk => exact h.elim
      | ct => exact h.elim
  have fin : ∀ {σ' : L2.St} {H' : Hp} {v : V} {u : Value}, Inv (cxOf (L2.CX P w) P w K mg base N qual scope f cdv A outer s H E) [] σ' H' s' → RelV v u → Q v H' → CE outer P w H s Q u s' :=
    fun {σ' H' v u} J rv q => ⟨v, H', J.os, J.bare, J.base, J.hok, rv, q⟩
  cases fl with
  | ret u =>
    obtain ⟨v, σ', H', J, rv, q⟩ := hs
    exact fin J rv q
  | next =>
    obtain ⟨σ', H', J, q⟩ := hs
    exact fin (v := V.non) (u := Value.none) J rfl q
  | brk =>
    obtain ⟨_, _, _, q⟩ := hs
    exact False.elim q
  | cont =>
    obtain ⟨_, _, _, q⟩ := hs
    exact False.elim q
theorem fn_DG {x qual : Str} {st : Stmt} {f : Addr} {fd : FuncData} {N ps : List Str} {k : Nat} {body : Sm} (F : Fun K x qual st f fd) (S : FnScope N ps (defScope st))
    (hb : ∀ (cdv : Value) (A : Around) (outer : List PySem.Env) (s : Shared) (H : Hp) (E : XK), (A.deeper (envOfC qual (defScope st) s.heap.objs.size f cdv)).guards = some [] → Room k (A.deeper (envOfC qual (defScope st) s.heap.objs.size f cdv)) → DSs (cxD P w K mg base N qual st f cdv A outer s H E) cl (fun c d _ H => E c d H) (defBody st) body) :
    FnG P w K mg base cl (k + 1) f fd ps (runF ps.length N.length body) := by
  obtain ⟨oc, od, kV, doc, pm, an, cdv, ct, osl, rfl, lk, hcd⟩ := F.ex
  exact fn_Gof lk hcd S fun A outer s H E gu hr => hb cdv A outer s H E gu hr
theorem fn_DGc {x qual : Str} {st : Stmt} {f c : Addr} {fd : FuncData} {N ps : List Str} {k : Nat} {body : Sm} (F : FunC K x qual st f fd c) (S : FnScope N ps (defScope st))
    (hb : ∀ (A : Around) (outer : List PySem.Env) (s : Shared) (H : Hp) (E : XK), (A.deeper (envOfC qual (defScope st) s.heap.objs.size f (.ref c))).guards = some [] → Room k (A.deeper (envOfC qual (defScope st) s.heap.objs.size f (.ref c))) → DSs (cxD P w K mg base N qual st f (.ref c) A outer s H E) cl (fun c d _ H => E c d H) (defBody st) body) :
    FnG P w K mg base cl (k + 1) f fd ps (runF ps.length N.length body) := by
  obtain ⟨oc, od, kV, doc, pm, an, ct, osl, rfl, lk, hcd⟩ := F.ex
  exact fn_Gof lk hcd S fun A outer s H E gu hr => hb A outer s H E gu hr
/-- the def x of the module is worth F where no guard is under way -/
structure CalG (P : Program) (w : World) (K : PySem.W.Frag) (mg : Str → Option Value) (base : Heap) (cl : Cls_) (x : Str) (k : Nat) (ps : List Str) (F : List D → M D) : Prop where
  ex : ∃ f fd, FnG P w K mg base cl k f fd ps F ∧ mg x = some (.ref f) ∧ PySem.W.keepIn K (.ref f) = true ∧ Binds K fd ps []
theorem Fd.calG {x qual : Str} {st : Stmt} {N ps : List Str} {k : Nat} {body : Sm} (F : Fd K mg x qual st ps) (S : FnScope N ps (defScope st))
    (hb : ∀ (f : Addr) (cdv : Value) (A : Around) (outer : List PySem.Env) (s : Shared) (H : Hp) (E : XK), (A.deeper (envOfC qual (defScope st) s.heap.objs.size f cdv)).guards = some [] → Room k (A.deeper (envOfC qual (defScope st) s.heap.objs.size f cdv)) → DSs (cxD P w K mg base N qual st f cdv A outer s H E) cl (fun c d _ H => E c d H) (defBody st) body) :
    CalG P w K mg base cl x (k + 1) ps (runF ps.length N.length body) := by
  obtain ⟨f, fd, F, m, kp, b⟩ := F.ex
  exact ⟨f, fd, fn_DG F S fun cdv A outer s H E gu hr => hb f cdv A outer s H E gu hr, m, kp, b⟩
theorem FdC.calG {x qual : Str} {st : Stmt} {N ps : List Str} {c : Addr} {k : Nat} {body : Sm} (F : FdC K mg x qual st ps c) (S : FnScope N ps (defScope st))
    (hb : ∀ (f : Addr) (A : Around) (outer : List PySem.Env) (s : Shared) (H : Hp) (E : XK), (A.deeper (envOfC qual (defScope st) s.heap.objs.size f (.ref c))).guards = some [] → Room k (A.deeper (envOfC qual (defScope st) s.heap.objs.size f (.ref c))) → DSs (cxD P w K mg base N qual st f (.ref c) A outer s H E) cl (fun c d _ H => E c d H) (defBody st) body) :
    CalG P w K mg base cl x (k + 1) ps (runF ps.length N.length body) := by
  obtain ⟨f, fd, F, m, kp, b⟩ := F.ex
  exact ⟨f, fd, fn_DGc F S fun A outer s H E gu hr => hb f A outer s H E gu hr, m, kp, b⟩
end
section
variable {X : Cx} {cl : Cls_} {E : WX} {k : Nat} {f : Addr} {fd : FuncData} {ps : List Str} {x : Str} {p pos : Pos} {e : Expr} {es : List Expr} {fs : Env → M (List D)} {F : List D → M D}
theorem run_G {pins : List (Addr × Obj)} {σ : L2.St} {H : Hp} {s : Shared} {Q : VK} {us : List Value} {vs : List V} {E : XK} (FF : FnG X.prog X.w X.K X.mg X.base cl k f fd ps F) (gu : X.A.guards = some []) (hr : Room k X.A) (hb : Binds X.K fd ps []) (hx : PassesAt (L2.CX X.prog X.w) X σ E)
    (I : Inv X pins σ H s) (r : Vals vs us) (h : spD ⟨X.K, cl⟩ ps.length F vs H Q E) : wpAny (model X.prog X.w) X.A (call (.ref f) us) (EP X pins σ Q) X.xe s := by
  have hl : us.length = ps.length := by rw [← r.length]; exact spD_len h
  have hl2 : (us ++ []).length = ps.length := by rw [List.append_nil]; exact hl
  have hb2 := hb s us I.kIn hl2
  rw [List.append_nil] at hb2
  refine wpAny_call (codeAny_mono (FF.run X.A X.stack s H ⟨us, []⟩ us vs Q E gu hr I.env0 hb2 r h) fun r s' hq => ?_)
  cases r with
  | error e => exact hx pins H s e s' I hq
  | ok fl =>
    cases fl with
    | ret u => exact I.after hq
    | next => exact False.elim hq
    | brk => exact False.elim hq
    | cont => exact False.elim hq
theorem de_calG {n : Nat} (C : CalG X.prog X.w X.K X.mg X.base cl x k ps F) (gu : X.A.guards = some []) (hr : Room k X.A) (tk : Takes X E) (ha : DA X cl E (e :: es) fs) (hn : ps.length = n := by rfl) (hg : Gl X x := by rfl) (hdb : (x == ("__debug__" : Str)) = false := by decide)
    (he : starEach (e :: es) X.env = (false, eval e X.env) :: starEach es X.env := by rfl) (hpl : (backTo pos (starEach es X.env)).any (·.1) = false := by rfl) : DE X cl E (.Call (.Name x p) (e :: es) [] pos) (cCall n F fs) := by
  obtain ⟨f, fd, G, hm, hk, hb⟩ := C.ex
  subst hn
  refine ⟨fun pins s σ H Q I h => ?_⟩
  refine wpAny_Call_Name_kw (ld_glob I hg hm ?_ hdb)
  have h2 : tA ⟨X.K, cl⟩ E fs σ H (fun vs H1 => spD ⟨X.K, cl⟩ ps.length F vs H1 Q (WE E σ)) := tA_bind h fun W0 H0 W1 H1 S1 ρ own vs ds ev r hh => by
    obtain ⟨c, hh⟩ := po_if hh
    exact ⟨W1, S1, ds, ev.wk, ev.st, r, c, hh.wish fun _ _ _ q => q⟩
  refine PySem.W.callWith_K (h₀ := X.base) I.ok.mod.kin hk (thn (ha.run pos pins s σ H _ I h2) fun us s1 ⟨vs, H1, I1, r, q⟩ => ⟨I1.kIn, ?_⟩) he hpl
  exact run_G G gu hr hb (passAt tk σ) I1 r q
end
end DN
/-! DQe: the end of a law row, for a law that wants that no guard is under way. -/
namespace DN
open PySem PySem.Spec PyProof.Rows L2 LamX
theorem law_callG {P : Program} {w : World} {K : PySem.W.Frag} {mg mb : Str → Option Value} {cl : Cls_} {F0 : List D → M D} {k : Nat} {fa a : Addr} {cs : List (Addr × Addr)} {fd : FuncData} {x : Str} {s₁ : Shared} {vs : List Value} {ns : List Int}
    (KX : K.In s₁.heap) (hns : s₁.heap.Ns mainGlobals mg) (hb : s₁.heap.Ns builtinsNs mb) (hbb : ∀ x : Str, x ≠ "__name__" → mb x = bootBuiltins x) (hlim : s₁.heap.NoLimit) (hg : s₁.gens = #[])
    (hT : ∀ p ∈ cs, s₁.heap.get? p.2 = some { cls := .none, data := .fields #[] }) (nT : ∀ p ∈ cs, K.lookup p.2 = none) (C : ∀ p ∈ cs, PySem.W.CodeHd s₁.heap p.1 p.2)
    (hbm : ∃ (bm : Addr) (ob : Obj), mg "__builtins__" = some (.ref bm) ∧ bm ≠ builtinsNs ∧ s₁.heap.get? bm = some ob ∧ ob.cls = .type "module" ∧ ob.dict = some builtinsNs ∧ ob.data = .plain)
    (ha : s₁.heap.get? a = some { cls := .type "list", data := .seq vs.toArray }) (hi : IntsAre vs ns) (hl : ns.length ≤ sizeLine) (hr : Room k callerA)
    (F : ∀ base : Heap, K.In base → base.Ns mainGlobals mg → (∀ p ∈ cs, TabB base mg p.1 p.2) → FnG P w K mg base cl k fa fd [x] F0) (hbind : ∀ (s : Shared) (u : Value), BindsTo s fd ⟨[u], []⟩ [(x, u)])
    (hsp : ∀ H : Hp, (∀ p ∈ cs, H p.2 = some (.tbl #[])) → SqL K H a (ns.map V.int) → spD ⟨K, cl⟩ 1 F0 [.ref a] H (fun v _ => v = .bl true) fun _ _ _ => False) :
    codeAny (model P w) callerA (.call (.ref fa) ⟨[.ref a], []⟩) (fun r s' => r = .ok (.ret (.bool true)) ∧ OldK s₁.heap s'.heap ∧ s'.os = s₁.os ∧ AllBare s'.gens) s₁ := by
  have rv := vals_ints hi
  have lenV := hi.length
  have isT : ∀ b : Addr, b ∈ cs.map (·.2) → s₁.heap.get? b = some { cls := .none, data := .fields #[] } := fun b hb => by
    obtain ⟨p, hp, e⟩ := List.mem_map.mp hb
    rw [← e]
    exact hT p hp
  have aT : a ∉ cs.map (·.2) := fun z => by
    have q := isT a z
    rw [ha] at q
    have z' : Data.seq vs.toArray _ = Data.fields #[] := congrArg Obj.data (Option.some.inj q)
    cases z'
  have memT : ∀ p ∈ cs, p.2 ∈ cs.map (·.2) := fun p hp => List.mem_map.mpr ⟨p, hp, rfl⟩
  -- from an abstract heap in which nothing but the script and the tables may be tracked
  have core : ∀ H : Hp, (∀ p ∈ cs, H p.2 = some (.tbl #[])) → (∀ b, H b = none ∨ b ∈ cs.map (·.2) ∨ ∃ o xs, H b = some (.frz o (.lst xs))) → SqL K H a (ns.map V.int) → HOk P w H s₁.heap → (∀ b, H b ≠ none → b = a ∨ b ∈ cs.map (·.2)) → (H a ≠ none → K.lookup a = none) →
      codeAny (model P w) callerA (.call (.ref fa) ⟨[.ref a], []⟩) (fun r s' => r = .ok (.ret (.bool true)) ∧ OldK s₁.heap s'.heap ∧ s'.os = s₁.os ∧ AllBare s'.gens) s₁ := by
    intro H hH hO hS hok hA hK
    have base_of : ∀ {b : Addr} {o : Obj}, s₁.heap.get? b = some o → H b = none → (hidT s₁.heap H).get? b = some o := fun e n => hidT_get e n
    have noD : ∀ {b : Addr} {o : Obj}, s₁.heap.get? b = some o → (∀ vs n, o.data ≠ .seq vs n) → o.data ≠ .fields #[] → H b = none := fun {b o} e h1 h2 => by
      cases q : H b with
      | none => rfl
      | some u =>
        rcases hA b (by rw [q]; simp) with e' | e'
        · rw [e', ha] at e
          cases e
          exact (h1 _ _ rfl).elim
        · rw [isT b e'] at e
          cases e
          exact (h2 rfl).elim
    have noA : ∀ {b : Addr} {o : Obj} {es : Array DictEntry} {ep : Nat}, s₁.heap.get? b = some o → o.data = .dict es ep → H b = none := fun {b o es ep} e d => by
      refine noD e (fun vs n z => ?_) fun z => ?_
      · rw [d] at z
        cases z
      · rw [d] at z
        cases z
    have nsK : ∀ {b : Addr} {m : Str → Option Value}, s₁.heap.Ns b m → (hidT s₁.heap H).Ns b m := fun {b m} ⟨o, es, ep, e, d, r⟩ => ⟨o, es, ep, base_of e (noA e d), d, r⟩
    have hKb : K.In (hidT s₁.heap H) := fun b o e => base_of (KX b o e) (by
      cases q : H b with
      | none => rfl
      | some u =>
        rcases hA b (by rw [q]; simp) with e' | e'
        · rw [e'] at e q
          rw [hK (by rw [q]; simp)] at e
          cases e
        · obtain ⟨p, hp, ep⟩ := List.mem_map.mp e'
          rw [← ep, nT p hp] at e
          cases e)
    have hM : L2.Mod K mg (hidT s₁.heap H) := ⟨hKb, nsK hns, ⟨mb, nsK hb, hbb⟩, let ⟨mc, h1, h2⟩ := hlim; ⟨mc, nsK h1, h2⟩⟩
    have TB : ∀ p ∈ cs, TabB (hidT s₁.heap H) mg p.1 p.2 := fun p hp => by
      have hTp := hT p hp
      refine ⟨?_, ?_, fun z => ?_⟩
      · obtain ⟨o, us, file, tf, flags, tg, inF, text, tt, e1, r1, r2, r3, r4, r5, r6, r7, r8, hne⟩ := C p hp
        refine ⟨o, us, file, tf, flags, tg, inF, text, tt, base_of e1 (noD e1 (fun vs n z => ?_) fun z => ?_), r1, r2, r3, r4, r5, r6, r7, r8, hne⟩
        · rw [r2] at z
          cases z
        · rw [r2] at z
          cases z
          simp at r3
      · obtain ⟨bm, ob, b1, b2, b3, b4, b5, b6⟩ := hbm
        have nG : bm ≠ mainGlobals := fun q => by
          obtain ⟨o, es, ep, e, hd, _⟩ := hns
          rw [q, e] at b3
          cases b3
          rw [hd] at b6
          cases b6
        have nP : bm ≠ p.2 := fun q => by
          rw [q, hTp] at b3
          cases b3
          cases b6
        refine ⟨bm, ob, b1, b2, nG, nP, base_of b3 (noD b3 (fun vs n z => ?_) fun z => ?_), b4, b5, b6⟩
        · rw [b6] at z
          cases z
        · rw [b6] at z
          cases z
      · obtain ⟨o, es, ep, e, hd, _⟩ := hns
        rw [z, hTp] at e
        cases e
        cases hd
    have e0 : Env0 P w K mg (hidT s₁.heap H) callerA [] s₁ H := ⟨rfl, hM, fun b o e => of_hidT e, Nat.le_of_eq (hidT_size _ _), trivial, fun b hb => absurd (show b ∈ ([] : List Addr) from hb) (by simp), hok, .of_eq hg⟩
    refine codeAny_mono ((F _ hKb (nsK hns) TB).run callerA [] s₁ H ⟨[.ref a], []⟩ [.ref a] [.ref a] _ _ rfl hr e0 (hbind s₁ (.ref a)) (.cons rfl .nil) (hsp H hH hS)) fun r s' h => ?_
    cases r with
    | error e => exact (no_cx h).elim
    | ok fl =>
      cases fl with
      | next => exact False.elim h
      | brk => exact False.elim h
      | cont => exact False.elim h
      | ret u =>
        obtain ⟨v, H', os, bare, un, hok', r', q⟩ := h
        have q' : v = .bl true := q
        subst q'
        obtain rfl : u = Value.bool true := r'
        have key : ∀ b o, b ∉ cs.map (·.2) → s₁.heap.get? b = some o → s'.heap.get? b = some o := fun b o nb e => by
          cases q : H b with
          | none => exact un.keep b o e q (by intro z; exact absurd (show b ∈ ([] : List Addr) from z) (by simp)) (by simp)
          | some u =>
            rcases hO b with z | z | ⟨ob, xs, z⟩
            · rw [q] at z; cases z
            · exact absurd z nb
            · have z2 := un.frzs b ob _ z
              obtain ⟨e1, _⟩ := hok b _ z
              obtain ⟨e2, _⟩ := hok' b _ z2
              rw [e] at e1; cases e1
              exact e2
        have grown : ∀ p ∈ cs, ∃ more : Array Value, s'.heap.get? p.2 = some { cls := .none, data := .fields more } := fun p hp => by
          obtain ⟨more, z⟩ := un.tbls p.2 #[] (hH p hp)
          exact ⟨_, hok' p.2 _ z⟩
        refine ⟨rfl, ⟨fun b o e => ?_, fun b o e => ?_⟩, os, bare⟩
        · by_cases hb : b ∈ cs.map (·.2)
          · obtain ⟨p, hp, ep⟩ := List.mem_map.mp hb
            obtain ⟨more, hm⟩ := grown p hp
            rw [← ep] at e ⊢
            rw [hT p hp] at e
            cases e
            exact .inr (.inl ⟨((C p hp).tab (hT p hp)).isCodeTable, rfl, #[], more, rfl, by rw [Array.empty_append]; exact hm⟩)
          · exact .inl (key b o hb e)
        · by_cases hb : b ∈ cs.map (·.2)
          · obtain ⟨p, hp, ep⟩ := List.mem_map.mp hb
            obtain ⟨more, hm⟩ := grown p hp
            rw [← ep]
            exact ⟨_, hm⟩
          · exact ⟨o, key b o hb e⟩
  cases hk : K.lookup a with
  | some o =>
    have e := KX a o hk
    rw [ha] at e
    cases e
    refine core (fun b => if b ∈ cs.map (·.2) then some (.tbl #[]) else none) (fun p hp => if_pos (memT p hp)) (fun b => ?_) (.inr ⟨_, vs.toArray, _, hk, rfl, rfl, rfl, by rw [List.size_toArray, lenV]; exact hl, by simpa using rv⟩) (fun b u z => ?_) (fun b z => ?_) fun z => absurd (show (if a ∈ cs.map (·.2) then some (HO.tbl #[]) else none) = none from if_neg aT) z
    · by_cases hb : b ∈ cs.map (·.2)
      · exact .inr (.inl hb)
      · exact .inl (if_neg hb)
    · by_cases hb : b ∈ cs.map (·.2)
      · have z' := (if_pos hb).symm.trans z
        cases z'
        exact isT b hb
      · have z' := (if_neg hb).symm.trans z
        cases z'
    · by_cases hb : b ∈ cs.map (·.2)
      · exact .inr hb
      · exact absurd (if_neg hb) z
  | none =>
    refine core (fun b => if b = a then some (.frz { cls := .type "list", data := .seq vs.toArray } (.lst (ns.map V.int))) else if b ∈ cs.map (·.2) then some (.tbl #[]) else none) (fun p hp => (if_neg (show ¬ p.2 = a from fun z => aT (by rw [← z]; exact memT p hp))).trans (if_pos (memT p hp))) (fun b => ?_)
      (.inl (.inr ⟨{ cls := .type "list", data := .seq vs.toArray }, if_pos rfl⟩)) (fun b u z => ?_) (fun b z => ?_) fun _ => hk
    · by_cases hb : b = a
      · exact .inr (.inr ⟨_, _, if_pos hb⟩)
      · by_cases hb2 : b ∈ cs.map (·.2)
        · exact .inr (.inl hb2)
        · exact .inl ((if_neg hb).trans (if_neg hb2))
    · by_cases hb : b = a
      · have z' := (if_pos hb).symm.trans z
        cases z'
        rw [hb]
        exact ⟨ha, by rw [List.length_map]; exact hl, vs, _, rv, ha⟩
      · have z1 := (if_neg hb).symm.trans z
        by_cases hb2 : b ∈ cs.map (·.2)
        · have z' := (if_pos hb2).symm.trans z1
          cases z'
          exact isT b hb2
        · have z' := (if_neg hb2).symm.trans z1
          cases z'
    · by_cases hb : b = a
      · exact .inl hb
      · by_cases hb2 : b ∈ cs.map (·.2)
        · exact .inr hb2
        · exact absurd ((if_neg hb).trans (if_neg hb2)) z
/-- what the law's module gives: the tables of its defs are empty -/
theorem walk_DG {l : PySem.W.OpenLaw} {n k : Nat} {q : Program} {loose : List Str} {XP : (Str → Option Value) → Heap → Prop} {YP : World → Heap → Prop} {d : DefRec} {K : Params → PySem.W.Frag} {F : List D → M D} (hn : l.most = some n) (hn2 : n ≤ sizeLine) (hdf : d.params.defaults = []) (hr : Room k callerA)
    (hY : ∀ (w : World) (h : Heap), YP w h → (K w.params).In h) (main : ∀ ns : List Int, ns.length ≤ n → ∃ S', F [.scr ns] [] = .ok (.bl true) S')
    (FF : ∀ (w : World) (mg : Str → Option Value) (fa : Addr) (h : Heap), (K w.params).In h → h.Ns mainGlobals mg → mg d.name = some (.ref fa) →
      (∀ (nm : Str) (f : Addr), ((recsOf q).any fun e => e.name == nm) = true → mg nm = some (.ref f) → OwnTab (K w.params) f h) →
      ∃ (fd : FuncData) (cs : List (Addr × Addr)) (cl : Cls_), (∀ p ∈ cs, h.get? p.2 = some { cls := .none, data := .fields #[] }) ∧ (∀ p ∈ cs, (K w.params).lookup p.2 = none) ∧ (∀ p ∈ cs, PySem.W.CodeHd h p.1 p.2) ∧ (∀ p ∈ cl.T, p.1 ∈ cs.map (·.2)) ∧
        (∀ (s : Shared) (u : Value), BindsTo s fd ⟨[u], []⟩ [("script", u)]) ∧ ∀ base : Heap, (K w.params).In base → base.Ns mainGlobals mg → (∀ p ∈ cs, TabB base mg p.1 p.2) → FnG l.prog w (K w.params) mg base cl k fa fd ["script"] F) :
    PySem.W.WalkO q loose XP YP l.row.toRowW d [] (fun f vs => PySem.call f vs) := by
  refine Att.attach_callB hn hdf fun w s₀ s₁ mg mb fa o pm cd doc a vs ns G Y ho hd hcd hmg hobj hints hlen hbits hg => ?_
  have KX := hY w _ Y
  have own : ∀ (nm : Str) (f : Addr), ((recsOf q).any fun e => e.name == nm) = true → mg nm = some (.ref f) → OwnTab (K w.params) f s₁.heap := by
    intro nm f hrec hnm c P o1 fd1 e dd vs1 sl k1 k2 k3 k4 k5
    obtain ⟨dL, hm, he⟩ := List.any_eq_true.mp hrec
    obtain ⟨a', o', fd', c', P', g1, g2, g3, g4, g5, ⟨oc, vc, u1, _, u3, u4⟩, hP⟩ := G.T.tab dL hm
    rw [beq_iff_eq.mp he, hnm] at g1
    cases g1
    have v1 := KX _ _ k1
    rw [v1] at g2
    cases g2
    rw [k2] at g3
    cases g3
    rw [k3] at g4
    cases g4
    have v2 := KX _ _ k4
    rw [v2] at u1
    cases u1
    cases u3
    rw [k5] at u4
    cases u4
    exact hP
  obtain ⟨fd, cs, cl, h1, h2, h3, h4, h5, h6⟩ := FF w mg fa _ KX G.T.g hmg own
  exact law_callG KX G.T.g G.T.b G.T.builtins G.T.nolimit hg h1 h2 h3 G.T.bmain hobj hints (Nat.le_trans hlen hn2) hr h6 h5 fun H hH hS => law_spT h4 main hlen hH hS
end DN
/-! DE1: making exceptions of own classes with an own __init__, over any built-in base; the model's side. -/
namespace DN.XM
open PySem PySem.Spec PySem.W PySem.Calls PyProof.Rows PySem.HandSPX Builtin Builtin.ObjectAttr
/-- what the built-in makers tell: newId (of the class B) makes, initId (of the class B2) lays the args; bm: what stands behind the class in its mro -/
structure XB (B newId B2 initId : String) (bm : List Value) : Prop where
  ends : newId.endsWith ".__new__" = true
  owner : newId.dropRight 8 = B
  entry : entryFor table newId = some Builtin.«BaseException.__new__»
  quiet : newId.startsWith "lifetime." = false
  newSplit : splitId newId = some (B, "__new__")
  newKind : builtinKind newId = some .builtinFn
  newRow : Manifest.signature? newId = some ⟨.any, B, B, .cls, [⟨"args", .varPos, false⟩, ⟨"kwargs", .varKw, false⟩]⟩
  canon : Manifest.canonical newId = Manifest.canonical "BaseException.__new__"
  star : (B != "*") = true
  plain : plainId initId = true
  initEntry : entryFor table initId = some Builtin.«BaseException.__init__»
  initSplit : splitId initId = some (B2, "__init__")
  initKind : builtinKind initId = some .slot
  initRow : Manifest.signature? initId = some ⟨.positional, "*", B2, .self, [⟨"args", .varPos, false⟩]⟩
  star2 : (B2 != "*") = true
  hB : bm.contains (.type B) = true
  hB2 : bm.contains (.type B2) = true
  noAttr : bm.contains (.type "AttributeError") = false
  noName : bm.contains (.type "NameError") = false
  ob : bm.contains (.type "object") = true
  pass : ∀ self : Value, refuseLoop self "__setattr__" bm = pure ()
theorem XB.ref {B newId B2 initId : String} {bm : List Value} (x : XB B newId B2 initId bm) (c : Addr) : XB B newId B2 initId (.ref c :: bm) :=
  { x with
    hB := by rw [List.contains_cons, x.hB, Bool.or_true]
    hB2 := by rw [List.contains_cons, x.hB2, Bool.or_true]
    noAttr := by rw [List.contains_cons, x.noAttr]; rfl
    noName := by rw [List.contains_cons, x.noName]; rfl
    ob := by rw [List.contains_cons, x.ob, Bool.or_true]
    pass := fun self => by rw [refuseLoop_ref]; exact x.pass self }
section
variable {M : Model} {A : Around} {E : Value → Shared → Prop} {h : Heap} {g : Array GenState} {d : Drawn} {t : Nat} {os : OsState}
variable {nm q : Str} {C N : Addr} {bs bm : List Value} {hdct : Bool} {sn : List Str} {sub : List Value} {ab : Bool} {col : Option Bool} {dd : Option Addr} {k0 k1 k2 k3 k5 : Option Value} {B newId B2 initId : String}
theorem check_new (F : XB B newId B2 initId bm) {rest : List Value} {Q : Unit → Shared → Prop}
    (hC : h.get? C = some (excClassObj nm q C N bs bm hdct sn sub ab col dd k0 k1 k2 k3 k5 newId)) (hq : Q () ⟨h, g, d, t, os⟩) : wpAny M A (checkBuiltinCall newId ⟨.ref C :: rest, []⟩) Q E ⟨h, g, d, t, os⟩ := by
  have hcont : (Value.ref C :: bm).contains (.type B) = true := by rw [List.contains_cons, F.hB, Bool.or_true]
  have hstar := F.star
  simp only [checkBuiltinCall, F.newKind, F.newSplit, F.newRow]
  repeat (first | refine wpAny_loadPart_at hC ?_ | (refine wpAny_isSubtype_exc hC ?_; rw [hcont]) | refine wpAny_staticBase_exc hC ?_ | refine wpAny_madeBy_exc hC ?_ | simp only [bne_self_eq_false, Bool.false_eq_true, if_false] | wp_step)
  exact hq
theorem check_init (F : XB B newId B2 initId bm) {e : Addr} {oe : Obj} {rest : List Value} {Q : Unit → Shared → Prop}
    (hC : h.get? C = some (excClassObj nm q C N bs bm hdct sn sub ab col dd k0 k1 k2 k3 k5 newId)) (he : h.get? e = some oe) (hcls : oe.cls = .ref C) (hq : Q () ⟨h, g, d, t, os⟩) :
    wpAny M A (checkBuiltinCall initId ⟨.ref e :: rest, []⟩) Q E ⟨h, g, d, t, os⟩ := by
  have hcB : (Value.ref C :: bm).contains (.type B2) = true := by rw [List.contains_cons, F.hB2, Bool.or_true]
  have hshort := F.star2
  simp only [checkBuiltinCall, F.initKind, F.initSplit, F.initRow]
  repeat (first | (with_reducible refine wpAny_loadPart_at he ?_; rw [hcls]) | with_reducible refine wpAny_loadPart_at hC ?_ | (with_reducible refine wpAny_isSubtype_exc hC ?_; rw [hcB]) | wp_step)
  refine wpAny_onRaise ?_
  rw [show ∀ (a b : String) (n : Nat), Bind.check ⟨.positional, "*", B2, .self, [⟨"args", .varPos, false⟩]⟩ a b n (List.map (fun x => x.fst) ({ pos := Value.ref e :: rest } : Args).kw) = pure () from
    fun a b n => check_star_args _ _ _ _ _ _]
  exact wpAny_pure hq
end
section
variable {prog : Program} {w : World} {A : Around} {E : Value → Shared → Prop} {R : Result → Shared → Prop} {h : Heap} {g : Array GenState} {d : Drawn} {t : Nat} {os : OsState}
variable {nm q : Str} {C N : Addr} {bs bm : List Value} {hdct : Bool} {sn : List Str} {sub : List Value} {ab : Bool} {col : Option Bool} {dd : Option Addr} {k0 k1 k2 k3 k5 : Option Value} {B newId B2 initId : String}
theorem new_x (F : XB B newId B2 initId bm) {rest : List Value}
    (hC : h.get? C = some (excClassObj nm q C N bs bm hdct sn sub ab col dd k0 k1 k2 k3 k5 newId))
    (hq : R (.ok (.ret (.ref (h.objs.size + 1)))) ⟨(h.push { cls := .type "tuple", data := .seq rest.toArray }).push
      { cls := .ref C, data := .fields #[.ref h.objs.size, .none, .none, .none, .bool false, .none] }, g, d, t, os⟩) (hrest : rest.length ≤ sizeLine) :
    codeAny (model prog w) A (.builtin newId ⟨.ref C :: rest, []⟩) R ⟨h, g, d, t, os⟩ := by
  have hends := F.ends
  have hcB : (Value.ref C :: bm).contains (.type B) = true := by rw [List.contains_cons, F.hB, Bool.or_true]
  have hcA : (Value.ref C :: bm).contains (.type "AttributeError") = false := by rw [List.contains_cons, F.noAttr]; rfl
  have hcN : (Value.ref C :: bm).contains (.type "NameError") = false := by rw [List.contains_cons, F.noName]; rfl
  refine codeAny_builtinAt F.entry ?_
  unfold Builtin.«BaseException.__new__»
  refine PySem.wpAt_bind ?_
  show PySem.wpAt _ _ _ (stack >>= _) _ _ _
  refine PySem.wpAt_bind (PySem.wpAt_stack fun p below => PySem.wpAt_of_wpAny ?_)
  wp_walk
  refine PySem.wpAt_of_wpAny ?_
  rw [F.owner]
  repeat (first | with_reducible refine wpAny_madeHere_exc F.canon hC ?_ | with_reducible refine wpAny_loadPart_at hC ?_ | (with_reducible refine wpAny_isSubtype_exc hC ?_; first | rw [hcB] | rw [hcA] | rw [hcN]) | wp_step)
  show R _ _
  rw [Heap.size_push]
  exact hq
theorem type_call_x (F : XB B newId B2 initId bm) {rest : List Value} {fI : Addr} {Q : Fin → Shared → Prop}
    (hC : h.get? C = some (excClassObj nm q C N bs bm hdct sn sub ab col dd k0 k1 k2 k3 k5 newId))
    (hi : W.Looks (model prog w) h (typeLookup (.ref C) "__init__") (some (.ref fI))) (hb : ∀ self, W.Looks (model prog w) h (bindSpecial (.ref fI) self) (.ref fI, [self])) (hrest : rest.length ≤ sizeLine)
    (hq : codeAny (model prog w) A (.call (.ref fI) ⟨.ref (h.objs.size + 1) :: rest, []⟩)
      (fun r s' => match r with | .ok (.ret v) => v = .none ∧ Q (.done (.ret (.ref (h.objs.size + 1)))) s' | .ok _ => False | .error e => E e s')
      ⟨(h.push (W.kdv_tup rest)).push (excO C h.objs.size), g, d, t, os⟩) :
    wpAny (model prog w) A (Builtin.«type.__call__» ⟨.ref C :: rest, []⟩) Q E ⟨h, g, d, t, os⟩ := by
  repeat (first | with_reducible refine wpAny_loadPart_at hC ?_ | with_reducible refine wpAny_madeBy_exc hC ?_ | wp_step)
  refine codeAny_call_builtin_code (Code.quiet_builtin _ F.quiet) (check_new F hC ?_)
  refine new_x F hC ?_ hrest
  show wpAny _ _ _ _ _ _
  have k : ∀ b o, h.get? b = some o → ((h.push (W.kdv_tup rest)).push (excO C h.objs.size)).get? b = some o := fun b o e => Heap.get?_push_of_some _ (Heap.get?_push_of_some _ e)
  have hC₁ := k _ _ hC
  have hget : ((h.push (W.kdv_tup rest)).push (excO C h.objs.size)).get? (h.objs.size + 1) = some (excO C h.objs.size) := by heap_get
  have hcC : (Value.ref C :: bm).contains (.ref C) = true := by simp
  have i1 := hi.keeps k
  have b1 := (hb (.ref (h.objs.size + 1))).keeps k
  unfold isInstance
  repeat (first | with_reducible refine wpAny_loadPart_at hget ?_ | (with_reducible refine wpAny_isSubtype_exc hC₁ ?_; rw [hcC]) | wp_step)
  show wpAny _ _ (typeLookup (.ref C) _) _ _ _
  refine i1.at ?_
  refine wpAny_holding (wpAny_bind (b1.at ?_))
  refine wpAny_bind (wpAny_call (codeAny_mono hq fun r s' z => ?_))
  rcases r with e | (v | _ | _ | _) <;> first | exact z | exact z.elim | skip
  obtain ⟨rfl, z⟩ := z
  first
    | exact wpAny_pure (wpAny_pure z)
    | (wp_walk; exact z)
theorem call_x (F : XB B newId B2 initId bm) {rest : List Value} {fI : Addr}
    (hC : h.get? C = some (excClassObj nm q C N bs bm hdct sn sub ab col dd k0 k1 k2 k3 k5 newId))
    (hi : W.Looks (model prog w) h (typeLookup (.ref C) "__init__") (some (.ref fI))) (hb : ∀ self, W.Looks (model prog w) h (bindSpecial (.ref fI) self) (.ref fI, [self])) (hrest : rest.length ≤ sizeLine)
    (hq : codeAny (model prog w) (A.under (.builtin "type.__call__" ⟨.ref C :: rest, []⟩)) (.call (.ref fI) ⟨.ref (h.objs.size + 1) :: rest, []⟩) (W.InitBack (h.objs.size + 1) R)
      ⟨(h.push (W.kdv_tup rest)).push (excO C h.objs.size), g, d, t, os⟩) :
    codeAny (model prog w) A (.call (.ref C) ⟨rest, []⟩) R ⟨h, g, d, t, os⟩ := by
  have f1 := tc_lookup
  have f2 := tc_bind (.ref C)
  have hTy : (⟨h, g, d, t, os⟩ : Shared).TypeIs (.ref C) "type" := ⟨_, hC, rfl⟩
  refine codeAny_of_tree ?_
  show wpAny _ _ (callAny (.ref C) _) _ _ _
  repeat (any_goals (first | assumption | with_reducible refine wpAny_loadPart_at hC ?_ | wp_step))
  refine ⟨rfl, ?_⟩
  refine codeAny_call_builtin_at (Code.quiet_builtin _ (by decide +kernel)) entry_typeCall (wpAny_check_type_call_sub hC (type_call_x F hC hi hb hrest ?_))
  refine codeAny_mono hq fun r s' z => ?_
  rcases r with e | (v | _ | _ | _) <;> exact z
theorem init_x (F : XB B newId B2 initId bm) {e t0 : Addr} {rest : List Value}
    (hC : h.get? C = some (excClassObj nm q C N bs bm hdct sn sub ab col dd k0 k1 k2 k3 k5 newId)) (he : h.get? e = some (excO C t0)) (hrest : rest.length ≤ sizeLine)
    (hq : ∀ h' t1, (∀ b o, b ≠ e → h.get? b = some o → h'.get? b = some o) → h'.get? e = some (excO C t1) → R (.ok (.ret .none)) ⟨h', g, d, t, os⟩) :
    codeAny (model prog w) A (.call (.builtin initId) ⟨.ref e :: rest, []⟩) R ⟨h, g, d, t, os⟩ := by
  refine codeAny_call_builtin F.plain F.initEntry (check_init F hC he rfl ?_)
  wp_walk
  refine hq _ h.objs.size (fun b o hb ho => ?_) ?_
  · rw [Heap.get?_update_other _ _ (Ne.symm hb)]
    exact Heap.get?_push_of_some _ ho
  · rw [Heap.get?_update_self _ (Heap.get?_push_of_some _ he) rfl]
    rfl
end
section
variable {prog : Program} {w : World} {A : Around} {E : Value → Shared → Prop} {R : Result → Shared → Prop} {hp : Heap} {g : Array GenState} {d : Drawn} {t : Nat} {os : OsState}
/-- self.name = v, the first one -/
theorem osa_x {K : W.Frag} {name : Str} {tk : Tok} {v : Value} {x C : Addr} {fv : Array Value} {cd : ClassData}
    (X : K.In hp) (hx : hp.get? x = some { cls := .ref C, data := .fields fv }) (hcd : W.clsIn K C = some cd) (ne : cd.mro.isEmpty = false) (hob : cd.mro.contains (.type "object") = true) (pass : ∀ self : Value, refuseLoop self "__setattr__" cd.mro = pure ()) (hh : cd.hasDict = true) (ha : W.findIn K (.ref C) name = some none)
    (hq : ∀ h' tk' dx, (∀ b o, b ≠ x → hp.get? b = some o → h'.get? b = some o) → hp.objs.size ≤ dx → dx ≠ x → h'.get? x = some { cls := .ref C, dict := some dx, data := .fields fv } →
      h'.Ns1 dx (fun y => if y = name then some v else none) → R (.ok (.ret .none)) ⟨h', g, d, tk', os⟩) :
    codeAny (model prog w) A (.call (.builtin "object.__setattr__") ⟨[.ref x, .str name tk, v], []⟩) R ⟨hp, g, d, t, os⟩ := by
  have I : W.InstAt hp x { cls := .ref C, data := .fields fv } C none := ⟨hx, rfl, rfl, trivial⟩
  have SF := F.store_object
  have hxs : x ≠ hp.objs.size := Nat.ne_of_lt (Heap.lt_size hx)
  have sub : W.Looks (model prog w) hp (isInstance (.ref x) (.type "object")) true := I.type.andThen (W.looks_mroIn X (by unfold W.mroIn; rw [hcd, Option.bind_some, if_neg (by rw [ne]; decide), hob]))
  refine codeAny_call_builtin SF.slot.plain SF.entry (@W.check_slot (model prog w) _ _ ⟨hp, g, d, t, os⟩ "object.__setattr__" "object" "__setattr__" (.ref x) [.str name tk, v] [] _ SF.kind SF.split sub (SF.args (.ref x) (.str name tk) v) ?_)
  have hmr : W.Looks (model prog w) hp (mroOf (.ref C)) cd.mro := (W.looks_clsIn X hcd).andThen .now
  have L3 : W.Looks (model prog w) hp (storeTaker? none) none := .now
  have hcls : W.Looks (model prog w) hp (classData C) cd := W.looks_clsIn X hcd
  rw [W.osa_eq, refuse_eq]
  refine wpAny_bind (wpAny_bind (I.type.at (wpAny_bind (hmr.at ?_))))
  rw [pass]
  refine wpAny_pure (wpAny_bind (I.type.at (wpAny_bind ((W.looks_findIn X ha).at (wpAny_bind (L3.at ?_))))))
  show wpAny _ _ (storeInOwnDict (.ref x) (.ref C) (.str name tk) name v false) _ _ _
  obtain ⟨nm, bs, mro, ns, qn, hd, sn, sb, ab, col, del⟩ := cd
  dsimp only at hh
  subst hh
  unfold storeInOwnDict ownDictForStores
  repeat (first | with_reducible refine store_in_new ?_ ?_ | with_reducible refine wpAny_loadPart_at hx ?_ | with_reducible refine hcls.at ?_ | wp_step)
  · exact ⟨_, #[], _, (Heap.get?_update_ne _ _ _ _ hxs.symm).trans (Heap.get?_push_at rfl rfl), rfl, fun e he => absurd he (by simp), fun _ => rfl⟩
  · intro h' tk' hn' hs
    have hx₁ : (hp.push { cls := .type "dict", data := .dict #[] }).get? x = some { cls := .ref C, data := .fields fv } := Heap.get?_push_of_some _ hx
    refine hq h' tk' hp.objs.size (fun b o hb ho => ?_) (Nat.le_refl _) hxs.symm ?_ hn'
    · exact (hs.2 b (Nat.ne_of_lt (Heap.lt_size ho))).trans ((Heap.get?_update_ne _ _ _ _ hb).trans (Heap.get?_push_of_some _ ho))
    · exact (hs.2 x hxs).trans (Heap.get?_update_self _ hx₁ rfl)
end
/-! ### the bases -/
theorem xb_of {B newId initId : String} {bm : List Value} (F : ExcBaseFacts B newId initId bm) (ob : bm.contains (.type "object") = true) (pass : ∀ self : Value, refuseLoop self "__setattr__" bm = pure ()) : XB B newId B initId bm where
  ends := F.ends
  owner := F.owner
  entry := F.entry
  quiet := F.quiet
  newSplit := F.newSplit
  newKind := F.newKind
  newRow := F.newRow
  canon := F.canon
  star := F.noStar
  plain := F.init.plain
  initEntry := F.initEntry
  initSplit := F.initSplit
  initKind := F.initKind
  initRow := F.initRow
  star2 := F.noStar
  hB := F.hasB
  hB2 := F.hasB
  noAttr := F.noAttr
  noName := F.noName
  ob := ob
  pass := pass
theorem xb_VE : XB "ValueError" "ValueError.__new__" "ValueError" "ValueError.__init__" [.type "ValueError", .type "Exception", .type "BaseException", .type "object"] := xb_of F.excBase_ValueError (by decide +kernel) fun self => by kernel_rfl
theorem xb_IE : XB "IndexError" "IndexError.__new__" "IndexError" "IndexError.__init__" [.type "IndexError", .type "LookupError", .type "Exception", .type "BaseException", .type "object"] := xb_of F.excBase_IndexError (by decide +kernel) fun self => by kernel_rfl
theorem xb_LE : XB "LookupError" "LookupError.__new__" "LookupError" "LookupError.__init__" [.type "LookupError", .type "Exception", .type "BaseException", .type "object"] := xb_of F.excBase_LookupError (by decide +kernel) fun self => by kernel_rfl
theorem xb_AE : XB "ArithmeticError" "ArithmeticError.__new__" "ArithmeticError" "ArithmeticError.__init__" [.type "ArithmeticError", .type "Exception", .type "BaseException", .type "object"] := xb_of F.excBase_ArithmeticError (by decide +kernel) fun self => by kernel_rfl
theorem xb_OE : XB "OverflowError" "OverflowError.__new__" "OverflowError" "OverflowError.__init__" [.type "OverflowError", .type "ArithmeticError", .type "Exception", .type "BaseException", .type "object"] := xb_of F.excBase_OverflowError (by decide +kernel) fun self => by kernel_rfl
theorem xb_KE : XB "LookupError" "LookupError.__new__" "KeyError" "KeyError.__init__" [.type "KeyError", .type "LookupError", .type "Exception", .type "BaseException", .type "object"] :=
  have F := F.excBase_LookupError
  have G := excClass_KeyError
  { ends := F.ends, owner := F.owner, entry := F.entry, quiet := F.quiet, newSplit := F.newSplit, newKind := F.newKind, newRow := F.newRow, canon := F.canon, star := F.noStar
    plain := G.init.plain, initEntry := G.initEntry, initSplit := G.initSplit, initKind := G.initKind, initRow := G.initSig, star2 := by decide +kernel
    hB := by decide +kernel, hB2 := by decide +kernel, noAttr := by decide +kernel, noName := by decide +kernel, ob := by decide +kernel, pass := fun self => by kernel_rfl }
end DN.XM
/-! DE2: exceptions of own classes as values: making, reading a field. -/
namespace DN
open PySem PySem.Spec PyProof.Rows L2 XM
/-- what the written part says of such a class -/
structure OxC (K : PySem.W.Frag) (C : Addr) (initId : String) : Prop where
  cls : ∃ nm q N bs bm sn sub ab col dd k0 k1 k2 k3 k5 B newId B2, K.lookup C = some (excClassObj nm q C N bs bm true sn sub ab col dd k0 k1 k2 k3 k5 newId) ∧ XB B newId B2 initId bm
  sa : PySem.W.findIn K (.ref C) "__setattr__" = some (some (.builtin "object.__setattr__"))
section
variable {X : Cx} {pins : List (Addr × Obj)} {σ : L2.St} {H : Hp} {s : Shared} {a C dx : Addr} {f : Str} {y : V} {u : Value} {fs : List (Str × V)} {E : Value → Shared → Prop} {A : Around} {initId : String}
theorem oxinit_ok {us : List Value} {Q : Value → Shared → Prop} (T : OxC X.K C initId) (I : Inv X pins σ H s) (e : H a = some (exo a C none)) (hl : us.length ≤ sizeLine) (h : ∀ s', Inv X pins σ H s' → Q .none s') :
    wpAny (model X.prog X.w) A (call (.builtin initId) (.ref a :: us)) Q E s := by
  obtain ⟨nm, q, N, bs, bm, sn, sub, ab, col, dd, k0, k1, k2, k3, k5, B, newId, B2, hC, xb⟩ := T.cls
  obtain ⟨t1, ho⟩ := exo_at I.hok e
  obtain ⟨hp, g, d, t, os⟩ := s
  refine wpAny_call (init_x xb (I.kIn _ _ hC) ho hl fun h' t2 k hx => ?_)
  have J := I.write (t' := t) (x := a) (e := a) (o := exo a C none) (by rw [e]; exact True.intro) (.inl rfl) k ⟨_, hx⟩ (exo_ok hx)
  have eu : upd H a (exo a C none) = H := by
    funext b
    by_cases hb : b = a
    · rw [hb, upd_same, e]
    · rw [upd_ne hb]
  rw [eu] at J
  exact h _ J
theorem oxst_ok {Q : Unit → Shared → Prop} (T : OxC X.K C initId) (I : Inv X pins σ H s) (e : H a = some (exo a C none)) (hno : PySem.W.findIn X.K (.ref C) f = some none) (ry : RelV y u)
    (h : ∀ dx s', H dx = none → dx ≠ a → Inv X pins σ (upd (upd H dx (exd dx [(f, y)])) a (exo a C (some dx))) s' → Q () s') : wpAny (model X.prog X.w) A (setAttr (.ref a) f u) Q E s := by
  obtain ⟨nm, q, N, bs, bm, sn, sub, ab, col, dd, k0, k1, k2, k3, k5, B, newId, B2, hC, xb⟩ := T.cls
  have hcl : PySem.W.clsIn X.K C = some { name := nm, bases := bs, mro := .ref C :: bm, ns := N, qualname := q, hasDict := true, slotNames := sn, subclasses := sub, abstract := ab, collection := col, hasDel := false } := by unfold PySem.W.clsIn; rw [hC] <;> rfl
  obtain ⟨t1, ho⟩ := exo_at I.hok e
  obtain ⟨hp, g, d, t, os⟩ := s
  refine PySem.W.set_plain I.kIn (ox := { cls := .ref C, dict := none, data := .fields #[.ref t1, .none, .none, .none, .bool false, .none] }) (od := none) ⟨ho, rfl, rfl, trivial⟩ T.sa ?_
  refine osa_x I.kIn ho hcl rfl (xb.ref C).ob (xb.ref C).pass rfl hno (fun h' tk' dx k dn dne hx hn => ?_)
  have hnd : H dx = none := I.hok.fresh dn
  have nd : ∀ {b : Addr} {o : Obj}, hp.get? b = some o → b ≠ dx := fun {b o} q => Nat.ne_of_lt (Nat.lt_of_lt_of_le (Heap.lt_size q) dn)
  have na : ∀ {b : Addr}, H b = none → b ≠ a := fun {b} n z => by
    rw [z, e] at n
    cases n
  have Un1 : Un X.fs [] H (upd (upd H dx (exd dx [(f, y)])) a (exo a C (some dx))) hp h' := {
    keep := fun b o q n _ _ => k b o (na n) q
    slot := fun b o q n _ _ => ⟨o.slots, k b o (na n) q⟩
    free := fun b o q n _ => by rw [upd_ne (na n), upd_ne (nd q)]; exact n
    there := fun b o q _ => by
      by_cases hb : b = a
      · exact ⟨_, by rw [hb]; exact hx⟩
      · exact ⟨o, k b o hb q⟩
    tups := fun b xs q => by rw [upd_ne (at_ne e q exo_tup), upd_ne (ne_of_none q hnd)]; exact q
    frzs := fun b o v q => by rw [upd_ne (at_ne e q exo_frz), upd_ne (ne_of_none q hnd)]; exact q
    tbls := fun b ps q => ⟨#[], by rw [upd_ne (at_ne e q exo_tbl), upd_ne (ne_of_none q hnd), q]; simp⟩ }
  refine h dx _ hnd dne (I.un (t' := tk') Un1 fun b o q => ?_)
  by_cases hb : b = a
  · subst hb
    rw [upd_same] at q
    cases q
    exact exo_ok hx
  · rw [upd_ne hb] at q
    by_cases hd : b = dx
    · subst hd
      rw [upd_same] at q
      cases q
      exact exd_ok hn (relO_put (fs := []) ry fun g => True.intro)
    · rw [upd_ne hd] at q
      exact (I.hok b o q).stay (fun c v hc z => k c v (by
          rcases hc with hc | hc
          · rw [hc]
            exact hb
          · exact at_ne e hc exo_own) z)
        (fun c hc => by rw [upd_ne (at_ne e hc exo_own), upd_ne (ne_of_none hc hnd)]; exact hc) (fun c xs hc => by rw [upd_ne (at_ne e hc exo_tup), upd_ne (ne_of_none hc hnd)]; exact hc)
end
/-- B.__init__(self, ..): nothing of it is told -/
def tXI (K : PySem.W.Frag) (initId : String) (ta : TA) : TE := fun σ H Q => ta σ H fun vs H1 => ∃ (a C : Addr) (ws : List V), vs = .ref a :: ws ∧ ws.length ≤ 1000 ∧ OxC K C initId ∧ H1 a = some (exo a C none) ∧ Q .non H1
def tXst (K : PySem.W.Frag) (initId : String) (f : Str) (to te : TE) : TS := fun D σ H => te σ H fun y H1 => to σ H1 fun x H2 => ∃ a C : Addr, x = .ref a ∧ OxC K C initId ∧ PySem.W.findIn K (.ref C) f = some none ∧ H2 a = some (exo a C none) ∧ ∀ dx, H2 dx = none → dx ≠ a → D.nx σ (upd (upd H2 dx (exd dx [(f, y)])) a (exo a C (some dx)))
/-- where the name of the base leads -/
structure BaseI (K : PySem.W.Frag) (mg : Str → Option Value) (x : Str) (initId : String) : Prop where
  h : PySem.W.handedIn (.builtin initId) = true
  ex : (∃ T : String, mg x = none ∧ bootBuiltins x = some (.type T) ∧ typeOf (.type T) = pure (.type "type") ∧ Manifest.isStub T = false ∧ PySem.W.findCls K (.type T) (.type "type") "__init__" = some (.val (.builtin initId)) ∧ x ≠ "__name__") ∨
    ∃ CB : Addr, mg x = some (.ref CB) ∧ PySem.W.specialIn K (.ref CB) "__getattribute__" = some (some (.builtin "type.__getattribute__")) ∧ PySem.W.readsIn K CB (.type "type") = true ∧ PySem.W.findCls K (.ref CB) (.type "type") "__init__" = some (.val (.builtin initId))
section
variable {X : Cx} {o e : Expr} {es : List Expr} {to te : TE} {ta : TA} {f x : Str} {p p' p1 p2 pos : Pos} {initId : String}
theorem pe_baseI {pl : Sem Bool} (hg : Gl X x) (B : BaseI X.K X.mg x initId) (ha : PA X (e :: es) ta) (hdb : (x == ("__debug__" : Str)) = false := by decide)
    (hc : eval (.Call (.Attribute (.Name x p1) "__init__" p2) (e :: es) [] pos) X.env = (do
      let ov ← eval (.Name x p1) X.env
      standAt p2.atName
      let (f, first) ← holding [ov] (getMethod ov "__init__" pl)
      callWith pos f first (backTo pos (starEach (e :: es) X.env)) (backToKw pos (keywordEach [] X.env))) := by rfl)
    (he : starEach (e :: es) X.env = (false, eval e X.env) :: starEach es X.env := by rfl) (hpl : (backTo pos (starEach es X.env)).any (·.1) = false := by rfl) :
    PE X (.Call (.Attribute (.Name x p1) "__init__" p2) (e :: es) [] pos) (tXI X.K initId ta) := by
  refine ⟨fun pins s σ H Q I h => ?_⟩
  have fin : ∀ s0 : Shared, Inv X pins σ H s0 → wpAny (model X.prog X.w) X.A (callWith pos (Value.builtin initId) [] (backTo pos (starEach (e :: es) X.env)) []) (EP X pins σ Q) X.xe s0 := by
    intro s0 I0
    refine PyProof.Rows.callWith_method1 (thn (ha.run pos pins _ σ H _ I0 h) fun us s1 ⟨vs, H1, I1, r1, a, C, ws, ev, hl, T, ea, q⟩ => ?_) he hpl
    subst ev
    cases r1 with
    | @cons _ u0 _ ur ra rw' =>
      obtain rfl : u0 = Value.ref a := ra
      have hlen : ur.length ≤ sizeLine := by
        rw [← Paired.length rw', sizeLine_eq]
        omega
      exact oxinit_ok T I1 ea hlen fun s' J => ⟨.non, H1, J, rfl, q⟩
  rcases B.ex with ⟨T, hm, hb, ht, st, vV, hn⟩ | ⟨CB, hm, hs, hr, vV⟩
  · refine PySem.W.methodCall_KW (ld_blt I hg hm hb ?_ hn hdb) hc
    obtain ⟨m, fr⟩ := I.fr
    exact PySem.W.method_type fr I.ok.mod.kin ht st vV B.h (fin _ (I.tok _))
  · refine PySem.W.methodCall_KW (ld_glob I hg hm ?_ hdb) hc
    exact PySem.W.method_cls I.kIn hs (PySem.W.cls_value I.kIn hr vV B.h (fin _ (I.tok _)))
theorem ps_xst (ho : PE X o to) (he : PE X e te) (hs : swapsWith e (some (.Attribute o f p')) pos.line X.env = pure false := by rfl) : PS X (.Assign [.Attribute o f p'] e pos) (tXst X.K initId f to te) := by
  refine ⟨fun pins s σ H D I h => ?_⟩
  refine plainObj_wpAny_Assign_Attribute (thn (he.run pins s σ H _ I h) fun v s1 ⟨y, H1, I1, r1, q1⟩ => thn (ho.run pins s1 σ H1 _ I1 q1) fun u s2 ⟨x, H2, I2, r2, a, C, ex, T, hno, ea, q⟩ => ?_) hs
  subst ex
  obtain rfl : u = Value.ref a := r2
  exact oxst_ok T I2 ea hno r1 fun dx s' n ne J => ⟨σ, _, J, q dx n ne⟩
end
/-- what an own __init__ of an exception promises: one field, the argument -/
def spX (C : Addr) (f : Str) : Sp := fun vs H Q _ => ∃ (a : Addr) (v : V), vs = [.ref a, v] ∧ H a = some (exo a C none) ∧ ∀ dx, H dx = none → dx ≠ a → Q .non (upd (upd H dx (exd dx [(f, v)])) a (exo a C (some dx)))
section
variable {P : Program} {w : World} {K : PySem.W.Frag} {mg : Str → Option Value} {base : Heap}
/-- def __init__(self, n): B.__init__(self, n); self.f = n -/
theorem fn_X {f0 : Addr} {qual : Str} {fd : FuncData} {st : Stmt} {sn n b f : Str} {C : Addr} {initId : String} {p1 p2 p3 p4 p5 p6 p7 p8 p9 p10 : Pos} (F : Fun K "__init__" qual st f0 fd) (S : FnScope [sn, n] [sn, n] (defScope st))
    (hbody : defBody st = [.Expr (.Call (.Attribute (.Name b p1) "__init__" p2) [.Name sn p3, .Name n p4] [] p5) p6, .Assign [.Attribute (.Name sn p7) f p8] (.Name n p9) p10])
    (hsn : Vis (defScope st) sn) (hn : Vis (defScope st) n) (hgb : (defScope st).names.lookup b = some .globalImplicit)
    (hpe : ∀ (X : Cx) (ta : TA), X.K = K → X.mg = mg → Gl X b → PA X [.Name sn p3, .Name n p4] ta → PE X (.Call (.Attribute (.Name b p1) "__init__" p2) [.Name sn p3, .Name n p4] [] p5) (tXI X.K initId ta)) (T : OxC K C initId) (hno : PySem.W.findIn K (.ref C) f = some none)
    (d1 : (sn == ("__debug__" : Str)) = false) (d2 : (sn == ("__classdict__" : Str)) = false) (d3 : (n == ("__debug__" : Str)) = false) (d4 : (n == ("__classdict__" : Str)) = false)
    (hs : ∀ Z : PySem.Env, swapsWith (.Name n p9) (some (.Attribute (.Name sn p7) f p8)) p10.line Z = pure false) (hs1 : ∀ Z : PySem.Env, swapsWith (.Call (.Attribute (.Name b p1) "__init__" p2) [.Name sn p3, .Name n p4] [] p5) none p6.line Z = pure false) :
    FnOk P w K mg base (L2.CX P w) 1 f0 fd [sn, n] (spX C f) := by
  refine F.okX S (fun vs H Q E ⟨a, v, e, _⟩ => by rw [e]; rfl) fun cdv A outer s H vs Q E hr ⟨a, v, e, ha, q⟩ => ?_
  subst e
  rw [hbody]
  have pself : PE (cxOf (L2.CX P w) P w K mg base [sn, n] qual (defScope st) f0 cdv A outer s H E) (.Name sn p3) (tVar 0) := pe_var rfl hsn d1 d2
  have pself2 : PE (cxOf (L2.CX P w) P w K mg base [sn, n] qual (defScope st) f0 cdv A outer s H E) (.Name sn p7) (tVar 0) := pe_var rfl hsn d1 d2
  have pn : PE (cxOf (L2.CX P w) P w K mg base [sn, n] qual (defScope st) f0 cdv A outer s H E) (.Name n p4) (tVar 1) := pe_var rfl hn d3 d4
  have pn2 : PE (cxOf (L2.CX P w) P w K mg base [sn, n] qual (defScope st) f0 cdv A outer s H E) (.Name n p9) (tVar 1) := pe_var rfl hn d3 d4
  have pc := hpe (cxOf (L2.CX P w) P w K mg base [sn, n] qual (defScope st) f0 cdv A outer s H E) _ rfl rfl hgb (pa_cons pself (pa_cons pn pa_nil))
  refine ⟨_, pss_cons (ps_expr pc (hs1 _)) (pss_one (ps_xst (initId := initId) pself2 pn2 (hs _))), ?_⟩
  refine ⟨.ref a, rfl, v, rfl, a, C, [v], rfl, by simp, T, ha, v, rfl, .ref a, rfl, a, C, rfl, T, hno, ha, fun dx h1 h2 => q dx h1 h2⟩
end
end DN
/-! DE3: exceptions as data: isinstance, fields, making. -/
namespace DN
open PySem PySem.Spec PyProof.Rows L2 XM
/-- an exception of the class C, held at a -/
def ExAt (H : Hp) (a C : Addr) : Prop := H a = some (ExO (.ref C) a) ∨ ∃ dx fs, H a = some (exo a C (some dx)) ∧ H dx = some (exd dx fs)
section
variable {X : Cx} {pins : List (Addr × Obj)} {σ : L2.St} {H : Hp} {s : Shared}
theorem ExAt.inst {a C : Addr} (I : Inv X pins σ H s) (e : ExAt H a C) : ∃ oe od, PySem.W.InstAt s.heap a oe C od := by
  rcases e with e | ⟨dx, fs, e, ed⟩
  · obtain ⟨⟨oe, vs, ho, hz, hv, _⟩, _, _⟩ := I.hok a _ e
    refine ⟨oe, none, ?_⟩
    obtain ⟨oc, od, oda, osl⟩ := oe
    obtain ⟨h1, h2⟩ := hz
    dsimp only at h1 h2 hv
    subst h1 h2 hv
    exact ⟨ho, rfl, rfl, trivial⟩
  · obtain ⟨t1, ho⟩ := exo_at I.hok e
    obtain ⟨mA, hns, _⟩ := exd_at I.hok ed
    obtain ⟨od, es, ep, hd, _⟩ := hns
    exact ⟨_, some od, ho, rfl, rfl, hd⟩
def rIsX (K : PySem.W.Frag) : List V → Hp → VK → Prop := fun xs H Q => rIsiZ K xs H Q ∨ ∃ (a C : Addr) (c : V) (u : Value) (b : Bool), xs = [.ref a, c] ∧ ClsV c u ∧ ExcC K C ∧ ExAt H a C ∧ PySem.W.kitOne K (.ref C) u = some b ∧ Q (.bl b) H
theorem call_isX {X : Cx} : CallR X (.builtin "isinstance") (rIsX X.K) := by
  intro pins s σ H xs us Q I r h
  rcases h with h | ⟨a, C, c, u, b, ex, k, T, e, ek, q⟩
  · exact call_isiZ pins s σ H xs us Q I r h
  · subst ex
    obtain ⟨u1, u2, rfl, r1, r2⟩ := vals2 r
    have e2 := k.eq r2
    subst e2
    cases r1
    obtain ⟨oe, od, J⟩ := e.inst I
    have hcl : (PySem.W.clsIn X.K C).isSome = true := by
      obtain ⟨cd, hc, _⟩ := PySem.W.any_some T.hd
      rw [hc]; rfl
    exact PySem.W.kia_one (PySem.W.kitx_exc hcl T.hg T.hk T.hs T.ha T.hn T.ht T.hm) I.kIn J ek (fun z => nomatch z) fun tk => ⟨.bl b, H, I.tok tk, rfl, q⟩
end
theorem Rp.exAt {G : Gx} {W : Wd} {H : Hp} {v : V} {c : Str} {fs : List (Str × D)} (r : Rp G W H v (.exn c fs)) : ∃ a C, v = .ref a ∧ G.cl.at_ c = some C ∧ ExAt H a C := by
  cases r with
  | exn0 h e _ => exact ⟨_, _, rfl, h, .inl e⟩
  | exn1 h e _ e2 _ _ => exact ⟨_, _, rfl, h, .inr ⟨_, _, e, e2⟩⟩
/-! ### isinstance(e, x), x a class, own or built-in, with a table of the own classes -/
def gIsO (tab : List (Str × Bool)) : D → M D
  | .exn c _ => match tab.lookup c with
    | some b => M.pure (.bl b)
    | none => M.bad
  | d => match tyD d with
    | some _ => M.pure (.bl false)
    | none => M.bad
structure IsV (K : PySem.W.Frag) (mg : Str → Option Value) (cl : Cls_) (x : Str) (tab : List (Str × Bool)) : Prop where
  ex : ∃ (c : V) (u : Value), ClsV c u ∧ ((∃ C, mg x = some (.ref C) ∧ c = .ref C) ∨ ∃ T, mg x = none ∧ bootBuiltins x = some (.type T) ∧ c = .ty T ∧ x ≠ "__name__") ∧
    (∀ k b, tab.lookup k = some b → ∃ C, cl.at_ k = some C ∧ ExcC K C ∧ PySem.W.kitOne K (.ref C) u = some b) ∧ ∀ t ∈ tyNames, PySem.W.kitOne K (.type t) u = some false
section
variable {X : Cx} {cl : Cls_} {E : WX} {a : Expr} {fa : Env → M D} {pos : Pos}
theorem de_isO {x : Str} {tab : List (Str × Bool)} {p p2 : Pos} (T : IsV X.K X.mg cl x tab) (hm : X.mg "isinstance" = none) (ha : DE X cl E a fa) (hg : Gl X "isinstance" := by rfl) (hg2 : Gl X x := by rfl) (hdb : (x == ("__debug__" : Str)) = false := by decide)
    (he : starEach (a :: [.Name x p2]) X.env = (false, eval a X.env) :: starEach [.Name x p2] X.env := by rfl) (he2 : starEach (.Name x p2 :: []) X.env = (false, eval (.Name x p2) X.env) :: starEach [] X.env := by rfl) (hpl : (backTo pos (starEach [.Name x p2] X.env)).any (·.1) = false := by rfl) :
    DE X cl E (.Call (.Name "isinstance" p) [a, .Name x p2] [] pos) (c1 (gIsO tab) fa) := by
  obtain ⟨c, u, k, hx, tb, ty⟩ := T.ex
  have pc : PE X (.Name x p2) (tC c) := by
    rcases hx with ⟨C, m, rfl⟩ | ⟨T, m, hb, rfl, hn⟩
    · exact pe_glob hg2 m rfl hdb
    · exact pe_bltn (v := .ty T) hg2 m hb rfl hn hdb
  refine pe_imp (pe_callB call_isX hg hm (by decide +kernel) (pa_cons ha (pa_cons pc pa_nil he2) he) (by decide) (by decide) he hpl) fun σ H Q h => ?_
  refine tE_bind h fun W0 H0 W1 H1 S1 ρ own v d ev rv hh => ?_
  unfold gIsO at hh
  split at hh
  · rename_i c0 fs0
    cases q : tab.lookup c0 with
    | none => rw [q] at hh; exact hh.elim
    | some b =>
      rw [q] at hh
      obtain ⟨a, C, ev', hc, ea⟩ := rv.exAt
      subst ev'
      obtain ⟨C', hc', xc, ek⟩ := tb _ _ q
      have hc : cl.at_ c0 = some C := hc
      rw [hc] at hc'
      cases hc'
      exact .inr ⟨a, C, c, u, b, rfl, k, xc, ea, ek, Po.val ev.wk ev.st hh (.bl _)⟩
  · cases q : tyD d with
    | none => rw [q] at hh; exact hh.elim
    | some t =>
      rw [q] at hh
      obtain ⟨tz, ht⟩ := rv.tyx q
      exact .inl ⟨v, c, .type t, u, false, rfl, k, tz, ty t ht, Po.val ev.wk ev.st hh (.bl _)⟩
/-! ### e.f -/
def gFld (f : Str) (cs : List Str) : D → M D
  | .exn c fs => if cs.contains c = true then (match fs.lookup f with
    | some d => M.pure d
    | none => M.bad) else M.bad
  | _ => M.bad
structure FldV (K : PySem.W.Frag) (cl : Cls_) (f : Str) (cs : List Str) : Prop where
  ex : ∀ c, cs.contains c = true → ∃ C, cl.at_ c = some C ∧ XfC K C ∧ PySem.W.findIn K (.ref C) f = some none
theorem RpF.look {G : Gx} {W : Wd} {H : Hp} {f : Str} : ∀ {fs : List (Str × V)} {ds : List (Str × D)} {d : D}, RpF G W H fs ds → ds.lookup f = some d → ∃ v, fs.lookup f = some v ∧ Rp G W H v d
  | _, _, _, .nil, h => by cases h
  | _, _, d, @RpF.cons _ _ _ g v vs d0 ds r t, h => by
    rw [List.lookup_cons] at h ⊢
    cases q : f == g with
    | true =>
      rw [q] at h
      cases h
      exact ⟨v, rfl, r⟩
    | false =>
      rw [q] at h
      exact RpF.look t h
theorem pe_fldX {e : Expr} {te : TE} {pos : Pos} {n : Str} (he : PE X e te) (hb : attributeBase e n X.env (eval e X.env) = eval e X.env := by rfl) :
    PE X (.Attribute e n pos) (fun σ H Q => te σ H fun x H1 => ∃ (a C dx : Addr) (fs : List (Str × V)) (v : V), x = .ref a ∧ XfC X.K C ∧ PySem.W.findIn X.K (.ref C) n = some none ∧ H1 a = some (exo a C (some dx)) ∧ H1 dx = some (exd dx fs) ∧ fs.lookup n = some v ∧ Q v H1) := by
  refine ⟨fun pins s σ H Q I h => ?_⟩
  refine attr_of hb (thn (he.run pins s σ H _ I h) fun u s1 hh => ?_)
  obtain ⟨x, H1, I1, rx, a, C, dx, fs, v, ex, T, hno, ea, ed, l, q⟩ := hh
  subst ex
  obtain rfl : u = Value.ref a := rx
  obtain ⟨t1, ho⟩ := exo_at I1.hok ea
  obtain ⟨mA, hns, hr⟩ := exd_at I1.hok ed
  obtain ⟨od, hd, hl⟩ := lookIn_ns hns
  obtain ⟨u, hu, ru⟩ := RelO.some_of (v := v) (o := mA n) (by rw [← l]; exact hr n)
  have J : PySem.W.InstAt s1.heap a _ C (some od) := ⟨ho, rfl, rfl, hd⟩
  exact HandSPX.exc_get I1.kIn J T.ga T.gg T.exC (PySem.W.findObj_own T.hdC hno rfl (by rw [hl, hu])) (handed_of ru) ⟨v, H1, I1.tok _, ru, q⟩
theorem de_fldX {f : Str} {cs : List Str} (T : FldV X.K cl f cs) (ha : DE X cl E a fa) (hb : attributeBase a f X.env (eval a X.env) = eval a X.env := by rfl) : DE X cl E (.Attribute a f pos) (c1 (gFld f cs) fa) := by
  refine pe_imp (pe_fldX ha hb) fun σ H Q h => ?_
  refine tE_bind h fun W0 H0 W1 H1 S1 ρ own v d ev rv hh => ?_
  cases d with
  | exn c ds =>
    obtain ⟨hc, hh⟩ := po_if (m := match ds.lookup f with | some d => M.pure d | none => M.bad) hh
    cases q : ds.lookup f with
    | none => rw [q] at hh; exact hh.elim
    | some d =>
      rw [q] at hh
      obtain ⟨C', e1, T1, T2⟩ := T.ex c hc
      cases rv with
      | exn0 _ _ _ => cases q
      | @exn1 _ a0 C dx fs _ hC ea na ed nd r =>
        have hC : cl.at_ c = some C := hC
        rw [hC] at e1
        cases e1
        obtain ⟨v, hv, r2⟩ := r.look q
        exact ⟨a0, _, dx, fs, v, rfl, T1, T2, ea, ed, hv, Po.val ev.wk ev.st hh r2⟩
  | _ => exact hh.elim
/-! ### making -/
def gMkP (c : Str) : D → M D := fun _ => M.pure (.exn c [])
def gMkI (c f : Str) : D → M D := fun d => M.pure (.exn c [(f, d)])
theorem de_mkP {x : Str} {C : Addr} {p : Pos} (V : ExV X.K X.mg cl x C) (ha : DE X cl E a fa) (hg : Gl X x := by rfl) (hs : starEach [a] X.env = (false, eval a X.env) :: starEach [] X.env := by rfl) (hdb : (x == ("__debug__" : Str)) = false := by decide) :
    DE X cl E (.Call (.Name x p) [a] [] pos) (c1 (gMkP x) fa) := by
  refine pe_imp (pe_exc1 PySem.F.excBase_ValueError V.ex V.g V.k hg ha hs hdb) fun σ H Q h => ?_
  refine tE_bind h fun W0 H0 W1 H1 S1 ρ own v d ev rv hh p hp => ?_
  exact Po.new ev.wk ev.st hh hp (.exn0 V.c upd_same (ev.wk.free hp))
/-- an own class with an own __init__ that keeps its argument in the field f -/
structure MkV (P : Program) (w : World) (K : PySem.W.Frag) (mg : Str → Option Value) (base : Heap) (cl : Cls_) (x : Str) (f : Str) (C : Addr) : Prop where
  ex : ∃ (initId : String) (fI : Addr) (fd : FuncData) (sn n : Str), OxC K C initId ∧ PySem.W.findIn K (.ref C) "__init__" = some (some (.ref fI)) ∧ PySem.W.typeIn K (.ref fI) = some (.type "function") ∧ FnOk P w K mg base (L2.CX P w) 1 fI fd [sn, n] (spX C f) ∧ Binds K fd [sn, n] []
  g : mg x = some (.ref C)
  k : PySem.W.keepIn K (.ref C) = true
  c : cl.at_ x = some C
theorem no_cxS {P : Program} {w : World} {out : List PySem.Env} {H : Hp} {s : Shared} {e : Value} {s' : Shared} (h : L2.CX P w out H s (fun _ _ _ => False) e s') : False := by
  obtain ⟨_, _, _, _, _, _, _, _, _, _, _, _, z⟩ := h
  exact z
theorem pe_mkX {x f : Str} {C : Addr} {e : Expr} {te : TE} {p : Pos} (V0 : MkV X.prog X.w X.K X.mg X.base cl x f C) (hr : Room 2 X.A) (ha : PE X e te) (hg : Gl X x := by rfl) (hdb : (x == ("__debug__" : Str)) = false := by decide)
    (he : starEach [e] X.env = (false, eval e X.env) :: starEach [] X.env := by rfl) (hpl : (backTo pos (starEach [] X.env)).any (·.1) = false := by rfl) :
    PE X (.Call (.Name x p) [e] [] pos) (fun σ H Q => te σ H fun v H1 => ∀ a dx, H1 a = none → H1 dx = none → dx ≠ a → Q (.ref a) (upd (upd (upd H1 a (exo a C none)) dx (exd dx [(f, v)])) a (exo a C (some dx)))) := by
  obtain ⟨initId, fI, fd, sn, n, T, iC, tI, F1, hb⟩ := V0.ex
  obtain ⟨nm, q, N, bs, bm, sl, sub, ab, col, dd, k0, k1, k2, k3, k5, B, newId, B2, hC, xb⟩ := T.cls
  refine ⟨fun pins s σ H Q I h => ?_⟩
  refine wpAny_Call_Name_kw (ld_glob I hg V0.g ?_ hdb)
  refine PySem.W.callWith_K (h₀ := X.base) I.ok.mod.kin V0.k (thn ((pa_cons ha pa_nil he).run pos pins s σ H (fun vs H1 => match vs with | [v] => ∀ a dx, H1 a = none → H1 dx = none → dx ≠ a → Q (.ref a) (upd (upd (upd H1 a (exo a C none)) dx (exd dx [(f, v)])) a (exo a C (some dx))) | _ => False) I h) fun us s1 ⟨vs, H1, I1, r1, q1⟩ => ⟨I1.kIn, ?_⟩) he hpl
  match vs, q1 with
  | [v], q1 =>
  show wpAny _ _ (call (.ref C) us) _ _ _
  obtain ⟨hp, g, dr, tk', os⟩ := s1
  have hsz : hp.objs.size ≤ hp.objs.size + 1 := Nat.le_succ _
  have hn : H1 (hp.objs.size + 1) = none := I1.hok.fresh hsz
  have kk : ∀ b o, hp.get? b = some o → ((hp.push (PySem.W.kdv_tup us)).push (PySem.HandSPX.excO C hp.objs.size)).get? b = some o := fun b o e => Heap.get?_push_of_some _ (Heap.get?_push_of_some _ e)
  have hget : ((hp.push (PySem.W.kdv_tup us)).push (PySem.HandSPX.excO C hp.objs.size)).get? (hp.objs.size + 1) = some (PySem.HandSPX.excO C hp.objs.size) := by heap_get
  have I2 : Inv X pins σ (upd H1 (hp.objs.size + 1) (exo (hp.objs.size + 1) C none)) ⟨(hp.push (PySem.W.kdv_tup us)).push (PySem.HandSPX.excO C hp.objs.size), g, dr, tk', os⟩ :=
    I1.laid (t' := tk') (a := hp.objs.size + 1) (o := exo (hp.objs.size + 1) C none) (h' := (hp.push (PySem.W.kdv_tup us)).push (PySem.HandSPX.excO C hp.objs.size)) kk hsz (exo_ok hget)
  have r2 : Vals (V.ref (hp.objs.size + 1) :: [v]) (Value.ref (hp.objs.size + 1) :: us) := .cons rfl r1
  have hl : (Value.ref (hp.objs.size + 1) :: us ++ []).length = [sn, n].length := by rw [List.append_nil]; exact r2.length.symm
  have hus : us.length ≤ sizeLine := by
    rw [← Paired.length r1, sizeLine_eq]
    simp
  have hb2 := hb ⟨(hp.push (PySem.W.kdv_tup us)).push (PySem.HandSPX.excO C hp.objs.size), g, dr, tk', os⟩ (Value.ref (hp.objs.size + 1) :: us) I2.kIn hl
  rw [List.append_nil] at hb2
  refine wpAny_call (call_x xb (I1.kIn _ _ hC) (PySem.W.looks_findIn I1.kIn iC) (fun self => PySem.W.bind_fn I1.kIn self tI) hus
    (codeAny_mono (F1.run _ X.stack _ _ ⟨Value.ref (hp.objs.size + 1) :: us, []⟩ (Value.ref (hp.objs.size + 1) :: us) [V.ref (hp.objs.size + 1), v] (fun u H2 => u = .non ∧ Q (.ref (hp.objs.size + 1)) H2) (fun _ _ _ => False) (hr.make C us []) (I2.env0.make C us []) hb2 r2 ⟨_, v, rfl, upd_same, fun dx h1 h2 => ⟨rfl, q1 _ dx hn (by rw [upd_ne h2] at h1; exact h1) h2⟩⟩) fun r s' hq' => ?_))
  cases r with
  | error er => exact (no_cxS hq').elim
  | ok fl =>
    cases fl with
    | ret u =>
      obtain ⟨v', H2, os2, bare2, un2, hok2, rv, ev, q2⟩ := hq'
      subst ev
      exact ⟨rv, .ref (hp.objs.size + 1), H2, I2.call' (ch := []) os2 un2 hok2 bare2 (fun b z => absurd z (by simp)), rfl, q2⟩
    | next => exact False.elim hq'
    | brk => exact False.elim hq'
    | cont => exact False.elim hq'
theorem de_mkI {x f : Str} {C : Addr} {p : Pos} (V0 : MkV X.prog X.w X.K X.mg X.base cl x f C) (hr : Room 2 X.A) (ha : DE X cl E a fa) (hg : Gl X x := by rfl) (hdb : (x == ("__debug__" : Str)) = false := by decide)
    (he : starEach [a] X.env = (false, eval a X.env) :: starEach [] X.env := by rfl) (hpl : (backTo pos (starEach [] X.env)).any (·.1) = false := by rfl) : DE X cl E (.Call (.Name x p) [a] [] pos) (c1 (gMkI x f) fa) := by
  refine pe_imp (pe_mkX V0 hr ha hg hdb he hpl) fun σ H Q h => ?_
  refine tE_bind h fun W0 H0 W1 H1 S1 ρ own v d ev rv hh p dx hp hd ne => ?_
  have eu : upd (upd (upd H1 p (exo p C none)) dx (exd dx [(f, v)])) p (exo p C (some dx)) = upd (upd H1 dx (exd dx [(f, v)])) p (exo p C (some dx)) := by
    funext b
    by_cases hb : b = p
    · subst hb; rw [upd_same, upd_same]
    · rw [upd_ne hb, upd_ne hb]
      by_cases hb2 : b = dx
      · subst hb2; rw [upd_same, upd_same]
      · rw [upd_ne hb2, upd_ne hb2, upd_ne hb]
  rw [eu]
  have s1 : Same H1 (upd H1 dx (exd dx [(f, v)])) := Same.new hd
  have hp' : upd H1 dx (exd dx [(f, v)]) p = none := by rw [upd_ne (Ne.symm ne)]; exact hp
  have s2 : Same H1 (upd (upd H1 dx (exd dx [(f, v)])) p (exo p C (some dx))) := s1.trans (Same.new hp')
  refine hh W1 _ (Le.same s2) (ev.wk.same s2) (ev.st.same s2) _ ?_
  exact .exn1 V0.c upd_same (ev.wk.free hp) (by rw [upd_ne ne, upd_same]) (ev.wk.free hd) (.cons (rv.mono (Lw.same s2)) .nil)
end
end DN
/-! DE4: repr of lists of data, where no repr is under way. -/
namespace DN
open PySem PySem.Spec PyProof.Rows L2
mutual
def toR : D → Option PyData
  | .non => some .none
  | .bl b => some (.bool b)
  | .int i => some (.int i)
  | .str x => some (.str x)
  | .tup xs => (toRs xs).map .tuple
  | .lst xs => (toRs xs).map .list
  | .dct kvs => if kvs.isEmpty = true then some (.dict []) else none
  | _ => none
def toRs : List D → Option (List PyData)
  | [] => some []
  | d :: ds => match toR d, toRs ds with
    | some p, some ps => some (p :: ps)
    | _, _ => none
end
mutual
inductive Dq (K : PySem.W.Frag) (H : Hp) : V → PyData → Prop
  | non : Dq K H .non .none
  | bl (b : Bool) : Dq K H (.bl b) (.bool b)
  | int (i : Int) : Dq K H (.int i) (.int i)
  | str (x : Str) : Dq K H (.str x) (.str x)
  | lst {a : Addr} {xs : List V} {ds : List PyData} : SqL K H a xs → DqAll K H xs ds → Dq K H (.ref a) (.list ds)
  | tup {a : Addr} {xs : List V} {ds : List PyData} : SqT K H a xs → DqAll K H xs ds → Dq K H (.ref a) (.tuple ds)
  | dct {a : Addr} : H a = some (.dK []) → Dq K H (.ref a) (.dict [])
inductive DqAll (K : PySem.W.Frag) (H : Hp) : List V → List PyData → Prop
  | nil : DqAll K H [] []
  | cons {v : V} {vs : List V} {d : PyData} {ds : List PyData} : Dq K H v d → DqAll K H vs ds → DqAll K H (v :: vs) (d :: ds)
end
section
variable {K : PySem.W.Frag} {cl : Cls_} {W : Wd} {H : Hp}
mutual
theorem Rp.dq : ∀ {d : D} {v : V} {p : PyData}, Rp ⟨K, cl⟩ W H v d → toR d = some p → Dq K H v p
  | .non, _, _, .non, e => by simp [toR] at e; subst e; exact .non
  | .bl b, _, _, .bl _, e => by simp [toR] at e; subst e; exact .bl b
  | .int b, _, _, .int _, e => by simp [toR] at e; subst e; exact .int b
  | .str b, _, _, .str _, e => by simp [toR] at e; subst e; exact .str b
  | .tup ds, _, _, .tup h r, e => by
    simp only [toR, Option.map_eq_some_iff] at e
    obtain ⟨ps, e1, e2⟩ := e
    subst e2
    exact .tup h.sq (RpA.dq r e1)
  | .lst ds, _, _, .lst h _ r, e => by
    simp only [toR, Option.map_eq_some_iff] at e
    obtain ⟨ps, e1, e2⟩ := e
    subst e2
    exact .lst (SqL.of h) (RpA.dq r e1)
  | .dct [], _, _, .dct h _ r, e => by
    simp [toR] at e
    subst e
    cases r
    exact .dct h
  | .dct (_ :: _), _, _, _, e => by simp [toR] at e
  | .mut _, _, _, _, e => by simp [toR] at e
  | .opq, _, _, _, e => by simp [toR] at e
  | .ins _ _, _, _, _, e => by simp [toR] at e
  | .exn _ _, _, _, _, e => by simp [toR] at e
  | .cls _, _, _, _, e => by simp [toR] at e
  | .scr _, _, _, _, e => by simp [toR] at e
theorem RpA.dq : ∀ {ds : List D} {vs : List V} {ps : List PyData}, RpA ⟨K, cl⟩ W H vs ds → toRs ds = some ps → DqAll K H vs ps
  | [], _, _, .nil, e => by simp [toRs] at e; subst e; exact .nil
  | d :: ds, _, _, .cons r t, e => by
    unfold toRs at e
    cases q1 : toR d with
    | none => rw [q1] at e; simp at e
    | some p =>
      cases q2 : toRs ds with
      | none => rw [q1, q2] at e; simp at e
      | some ps =>
        rw [q1, q2] at e
        simp at e; subst e
        exact .cons (Rp.dq r q1) (RpA.dq t q2)
end
end
section
variable {X : Cx} {pins : List (Addr × Obj)} {σ : L2.St} {H : Hp} {s : Shared}
mutual
theorem Dq.shows (I : Inv X pins σ H s) : ∀ (p : PyData) (v : V) (u : Value), Dq X.K H v p → RelV v u → p.showable = true → p.shown.length ≤ sizeLine → ∃ as bs, Reads s.heap u p as ∧ ReadAtMost s.heap p.depth bs ∧ ReprK X.prog X.w bs s.heap p.depth u p.shown
  | .none, _, _, h, r, _, _ => by
    cases h; cases r
    exact ⟨_, [], .none, (fun _ h => nomatch h), by simp only [PyData.shown]; exact .of_is ReprIs.none _ _ _⟩
  | .bool b, _, _, h, r, _, _ => by
    cases h; cases r
    exact ⟨_, [], .bool b, (fun _ h => nomatch h), by simp only [PyData.shown]; exact .of_is (ReprIs.bool b) _ _ _⟩
  | .int i, _, _, h, r, hs, _ => by
    cases h
    obtain ⟨t, rfl⟩ := r
    exact ⟨_, [], .int i t, (fun _ h => nomatch h), by simp only [PyData.shown]; exact .of_is (ReprIs.int t (by simpa [PyData.showable] using hs)) _ _ _⟩
  | .str x, _, _, h, r, _, hz => by
    cases h
    obtain ⟨t, rfl⟩ := r
    exact ⟨_, [], .str x t, (fun _ h => nomatch h), by simp only [PyData.shown]; exact .of_is (ReprIs.str x t (by simpa only [PyData.shown] using hz)) _ _ _⟩
  | .list ds, _, _, h, r, hs, hz => by
    cases h with
    | @lst a xs _ hq ha =>
      cases r
      have hz' : (listText (PyData.shownAll ds)).length ≤ sizeLine := by simpa only [PyData.shown] using hz
      obtain ⟨its, rv, ⟨o, n, ho, hc, _, hd⟩, _⟩ := I.list hq
      obtain ⟨as, bs, hr, hb, hk⟩ := DqAll.shows I ds _ its ha rv (by simpa [PyData.showable] using hs) (fun t ht => Nat.le_trans (listText_mem_le ht) hz')
      have r : Reads s.heap (.ref a) (.list ds) _ := .list ho hc hd hr
      have hna : a ∉ bs := not_mem_of_deeper r (by simp only [PyData.depth]; omega) hb
      refine ⟨_, a :: bs, r, ReadAtMost.cons r (by simp only [PyData.depth]; omega) hb, ?_⟩
      simp only [PyData.depth, PyData.shown]
      cases its with
      | nil =>
        cases hr
        simp only [PyData.shownAll, listText_nil]
        exact ReprK.listEmpty ho hc hd
      | cons x l => exact ReprK.list ho hc hd hna (by simpa using hk.length_eq) (fun i y e => hk.item i y (by simpa using e))
  | .tuple ds, _, _, h, r, hs, hz => by
    cases h with
    | @tup a xs _ hq ha =>
      cases r
      have hz' : (tupleText (PyData.shownAll ds)).length ≤ sizeLine := by simpa only [PyData.shown] using hz
      obtain ⟨its, rv, ⟨o, ho, hc, n, hd⟩, _⟩ := I.tuple hq
      obtain ⟨as, bs, hr, hb, hk⟩ := DqAll.shows I ds _ its ha rv (by simpa [PyData.showable] using hs) (fun t ht => Nat.le_trans (tupleText_mem_le ht) hz')
      have r : Reads s.heap (.ref a) (.tuple ds) _ := .tuple ho hc hd hr
      have hna : a ∉ bs := not_mem_of_deeper r (by simp only [PyData.depth]; omega) hb
      refine ⟨_, a :: bs, r, ReadAtMost.cons r (by simp only [PyData.depth]; omega) hb, ?_⟩
      simp only [PyData.depth, PyData.shown]
      exact ReprK.tuple ho hc hd hna hk
  | .dict kvs, _, _, h, r, hs, hz => by
    cases h with
    | @dct a hq =>
      cases r
      obtain ⟨_, hsys, vs, r0, o, es, ep, e1, e2, e3, _, e5, _⟩ := dk_of I.hok hq
      cases r0
      have e4 : es.toList = [] := by
        cases q : es.toList with
        | nil => rfl
        | cons a b => rw [q] at e5; first | cases e5 | exact (show False from e5).elim
      have r : Reads s.heap (.ref a) (.dict []) [a] := .dict (as := []) (bs := []) e1 e2.1 e3 (by rw [e4]; exact .nil) (by rw [e4]; exact .nil)
      refine ⟨_, [a], r, ReadAtMost.cons (n := 0) (bs := []) r (Nat.zero_le _) (fun _ h => nomatch h), ?_⟩
      simp only [PyData.depth, PyData.shown, PyData.shownKv]
      exact ReprK.dict e1 e2.1 e3 hsys (by simp) (by rw [e4]; exact .nil)
theorem DqAll.shows (I : Inv X pins σ H s) : ∀ (ps : List PyData) (vs : List V) (us : List Value), DqAll X.K H vs ps → Vals vs us → PyData.showableAll ps = true → (∀ t ∈ PyData.shownAll ps, t.length ≤ sizeLine) → ∃ as bs, ReadsAll s.heap us ps as ∧ ReadAtMost s.heap (PyData.depthAll ps) bs ∧ ReprAllK X.prog X.w bs s.heap (PyData.depthAll ps) us (PyData.shownAll ps)
  | [], _, _, h, r, _, _ => by
    cases h; cases r
    exact ⟨_, [], .nil, (fun _ h => nomatch h), by simp only [PyData.shownAll]; exact .nil⟩
  | d :: ds, _, _, h, r, hs, hz => by
    cases h with
    | cons h1 h2 =>
      cases r with
      | cons r1 r2 =>
        have hs' : d.showable = true ∧ PyData.showableAll ds = true := by simpa [PyData.showableAll] using hs
        obtain ⟨a1, b1, q1, hb1, k1⟩ := Dq.shows I d _ _ h1 r1 hs'.1 (hz _ (by simp only [PyData.shownAll]; exact List.mem_cons_self ..))
        obtain ⟨a2, b2, q2, hb2, k2⟩ := DqAll.shows I ds _ _ h2 r2 hs'.2 (fun t ht => hz t (by simp only [PyData.shownAll]; exact List.mem_cons_of_mem _ ht))
        refine ⟨_, b1 ++ b2, .cons q1 q2, ?_, ?_⟩
        · simp only [PyData.depthAll]
          exact (hb1.mono (Nat.le_max_left _ _)).append (hb2.mono (Nat.le_max_right _ _))
        · simp only [PyData.depthAll, PyData.shownAll]
          exact .cons ((k1.more fun b hb => List.mem_append_left _ hb).level_le (Nat.le_max_left _ _)) (k2.more_le (fun b hb => List.mem_append_right _ hb) (Nat.le_max_right _ _))
end
def rReprS (K : PySem.W.Frag) : List V → Hp → VK → Prop := fun xs H Q => ∃ (a : Addr) (ps : List PyData), xs = [.ref a] ∧ Dq K H (.ref a) (.list ps) ∧ (PyData.list ps).showable = true ∧ (PyData.list ps).shown.length ≤ sizeLine ∧ (PyData.list ps).depth ≤ 60 ∧ Q (.str (PyData.list ps).shown) H
theorem call_reprS {X : Cx} (gu : X.A.guards = some []) (hu : X.A.units + 64 < cLine) : CallR X (.builtin "repr") (rReprS X.K) := by
  intro pins s σ H xs us Q I r ⟨a, ps, ex, hq, hs, hz, hd, q⟩
  subst ex
  obtain ⟨u, rfl, r1⟩ := vals1 r
  obtain rfl : u = Value.ref a := r1
  cases hq with
  | @lst _ xs _ hq ha =>
    have hz' : (listText (PyData.shownAll ps)).length ≤ sizeLine := by simpa only [PyData.shown] using hz
    obtain ⟨its, rv, ⟨o, n, ho, hc, _, hdt⟩, _⟩ := I.list hq
    obtain ⟨as, bs, hr, hb, hk⟩ := DqAll.shows I ps _ its ha rv (by simpa [PyData.showable] using hs) (fun t ht => Nat.le_trans (listText_mem_le ht) hz')
    have r : Reads s.heap (.ref a) (.list ps) _ := .list ho hc hdt hr
    have hna : a ∉ bs := not_mem_of_deeper r (by simp only [PyData.depth]; omega) hb
    simp only [PyData.depth] at hd
    simp only [PyData.shown] at q
    refine call_repr_slot (by omega) ⟨o, ho, hc⟩ F.slot_list_repr.toG ?_
    have hu1 : X.A.in1.units + (PyData.depthAll ps + 1) < cLine := by show X.A.units + 1 + (PyData.depthAll ps + 1) < cLine; omega
    cases its with
    | nil =>
      cases hr
      simp only [PyData.shownAll, listText_nil] at q
      exact call_list_repr_empty ⟨o, ho, hc⟩ ho hdt ⟨_, _, rfl, .str _, H, I.tok _, ⟨_, rfl⟩, q⟩
    | cons x l =>
      exact call_list_reprK ho hc hdt hna (by simpa using hk.length_eq) (fun i y e => hk.item i y (by simpa using e)) (show X.A.in1.guards = some [] from gu) (fun b _ => Clear.nil b) hu1 (fun _ _ e => e) (fun h' u tk k => ⟨_, _, rfl, .str _, H, I.kept k, ⟨_, rfl⟩, q⟩) hz'
end
/-- repr of a list -/
def reprOk (p : PyData) : Bool := p.showable && (decide (p.shown.length ≤ 16777216) && decide (p.depth ≤ 60))
def gReprS : List D → M D
  | [.lst ds] => match toR (.lst ds) with
    | some p => if reprOk p = true then M.pure (.str p.shown) else M.bad
    | none => M.bad
  | _ => M.bad
theorem cd_reprS {K : PySem.W.Frag} {cl : Cls_} : CallD K cl (rReprS K) gReprS := by
  intro E σ W H S vs ds Q w s r h
  match ds, h with
  | [.lst ds], h =>
    obtain ⟨v, rfl, rv⟩ := r.inv1
    have h : Po ⟨K, cl⟩ E σ W H ((match toR (.lst ds) with | some p => if reprOk p = true then M.pure (.str p.shown) else M.bad | none => M.bad : M D) S) (RV ⟨K, cl⟩ Q) := h
    cases q : toR (.lst ds) with
    | none => rw [q] at h; exact h.elim
    | some p =>
      rw [q] at h
      obtain ⟨ok, h⟩ := po_if h
      have dq := rv.dq q
      unfold reprOk at ok
      rw [Bool.and_eq_true, Bool.and_eq_true, decide_eq_true_eq, decide_eq_true_eq] at ok
      simp only [toR, Option.map_eq_some_iff] at q
      obtain ⟨ps, _, e2⟩ := q
      subst e2
      cases rv with
      | lst h1 nb ra => exact ⟨_, ps, rfl, dq, ok.1, isline ok.2.1, ok.2.2, Po.val w s h (.str _)⟩
end DN
/-! DE5: what is asked of the written part about classes of exceptions, as truth values. -/
namespace DN
open PySem PySem.Spec PyProof.Rows L2 XM
def onCls (K : PySem.W.Frag) (c : Str) (f : Addr → Bool) : Bool := match clN K c with
  | some C => f C
  | none => false
theorem onCls_ok {K : PySem.W.Frag} {c : Str} {f : Addr → Bool} (h : onCls K c f = true) : ∃ C, clN K c = some C ∧ f C = true := by
  unfold onCls at h
  cases q : clN K c with
  | none => rw [q] at h; cases h
  | some C => rw [q] at h; exact ⟨C, rfl, h⟩
theorem clN_mg {K : PySem.W.Frag} {h : Heap} {mg : Str → Option Value} {c : Str} {C : Addr} (X : K.In h) (G : h.Ns mainGlobals mg) (e : clN K c = some C) : mg c = some (.ref C) := by
  unfold clN at e
  cases q : PySem.W.nsIn K mainGlobals c with
  | none => rw [q] at e; cases e
  | some v =>
    rw [q] at e
    cases v with
    | none => cases e
    | some v =>
      cases v with
      | ref a => cases e; exact PySem.W.mg_of X G q
      | _ => cases e
theorem lookup_memS {b : Bool} {k : Str} : ∀ {l : List (Str × Bool)}, l.lookup k = some b → (k, b) ∈ l
  | [], h => by cases h
  | (k', b') :: r, h => by
    rw [List.lookup_cons] at h
    cases q : k == k' with
    | true =>
      rw [q] at h
      cases h
      rw [beq_iff_eq.mp q]
      exact List.mem_cons_self
    | false =>
      rw [q] at h
      exact List.mem_cons_of_mem _ (lookup_memS h)
/-- all own classes that are held as values -/
def excCB (K : PySem.W.Frag) (D : Addr) : Bool :=
  (PySem.W.findIn K (.ref D) "__getattribute__" == some (some (.builtin "BaseException.__getattribute__"))) && ((PySem.W.findIn K (.ref D) "__getattr__" == some none) && ((PySem.W.subIn K (.ref D) (.type "BaseException") == some true) && (PySem.W.hasDictIn K D && ((PySem.W.findIn K (.ref D) "__class__" == some (some (.builtin "object.__class__"))) &&
    ((PySem.W.specialIn K (.builtin "object.__class__") "__get__" == some (some (.builtin "getset_descriptor.__get__"))) && ((PySem.W.takesIn K (.builtin "object.__class__") == some true) && (PySem.W.mroIn K D (.type "object") == some true)))))))
theorem excCB_ok {K : PySem.W.Frag} {D : Addr} (h : excCB K D = true) : ExcC K D := by
  simp only [excCB, Bool.and_eq_true, beq_iff_eq] at h
  obtain ⟨h1, h2, h3, h4, h5, h6, h7, h8⟩ := h
  exact ⟨h1, h2, h3, h4, h5, h6, h7, h8⟩
def xcB (K : PySem.W.Frag) (cs : List Str) : Bool := cs.all fun c => onCls K c (excCB K)
def isTabB (K : PySem.W.Frag) (u : Value) (tab : List (Str × Bool)) : Bool := (tab.all fun p => onCls K p.1 fun C => PySem.W.kitOne K (.ref C) u == some p.2) && tyNames.all fun t => PySem.W.kitOne K (.type t) u == some false
section
variable {K : PySem.W.Frag} {h : Heap} {mg : Str → Option Value} {x : Str} {tab : List (Str × Bool)} {cs : List Str} {TT : List (Addr × Str)}
theorem isTab_ok {u : Value} (h1 : isTabB K u tab = true) (h2 : xcB K cs = true) (h3 : (tab.all fun p => cs.contains p.1) = true) :
    (∀ k b, tab.lookup k = some b → ∃ C, (⟨clN K, TT⟩ : Cls_).at_ k = some C ∧ ExcC K C ∧ PySem.W.kitOne K (.ref C) u = some b) ∧ ∀ t ∈ tyNames, PySem.W.kitOne K (.type t) u = some false := by
  unfold isTabB at h1
  rw [Bool.and_eq_true, List.all_eq_true, List.all_eq_true] at h1
  refine ⟨fun k b q => ?_, fun t ht => beq_iff_eq.mp (h1.2 t ht)⟩
  have m := lookup_memS q
  obtain ⟨C, e1, e2⟩ := onCls_ok (h1.1 _ m)
  have m2 := List.all_eq_true.mp h3 _ m
  obtain ⟨C2, e3, e4⟩ := onCls_ok (List.all_eq_true.mp h2 k (List.contains_iff_mem.mp m2))
  rw [e1] at e3
  cases e3
  exact ⟨C, e1, excCB_ok e4, beq_iff_eq.mp e2⟩
def isOwnB (K : PySem.W.Frag) (x : Str) (tab : List (Str × Bool)) : Bool := onCls K x fun C => isTabB K (.ref C) tab
theorem isV_own (X : K.In h) (G : h.Ns mainGlobals mg) (h1 : isOwnB K x tab = true) (h2 : xcB K cs = true) (h3 : (tab.all fun p => cs.contains p.1) = true) : IsV K mg ⟨clN K, TT⟩ x tab := by
  obtain ⟨C, e1, e2⟩ := onCls_ok h1
  obtain ⟨a, b⟩ := isTab_ok e2 h2 h3
  exact ⟨.ref C, .ref C, .own C, .inl ⟨C, clN_mg X G e1, rfl⟩, a, b⟩
theorem isV_blt {T : String} (hm : mg x = none) (hb : bootBuiltins x = some (.type T)) (hn : x ≠ "__name__") (h1 : isTabB K (.type T) tab = true) (h2 : xcB K cs = true) (h3 : (tab.all fun p => cs.contains p.1) = true) : IsV K mg ⟨clN K, TT⟩ x tab := by
  obtain ⟨a, b⟩ := isTab_ok h1 h2 h3
  exact ⟨.ty T, .type T, .ty T, .inr ⟨T, hm, hb, rfl, hn⟩, a, b⟩
/-- a class over ValueError without own __init__ -/
def exvB (K : PySem.W.Frag) (C : Addr) : Bool := PySem.W.excIn K C [.type "ValueError", .type "Exception", .type "BaseException", .type "object"] "ValueError.__new__" && (PySem.W.keepIn K (.ref C) && ((PySem.W.subIn K (.ref C) (.type "BaseException") == some true) && (PySem.W.typeIn K (.ref C) == some (.type "type"))))
theorem exV_ok (X : K.In h) (G : h.Ns mainGlobals mg) (h1 : onCls K x (exvB K) = true) : ∃ C, ExV K mg ⟨clN K, TT⟩ x C := by
  obtain ⟨C, e1, e2⟩ := onCls_ok h1
  simp only [exvB, Bool.and_eq_true, beq_iff_eq] at e2
  exact ⟨C, e2.1, clN_mg X G e1, e2.2.1, e2.2.2.1, e2.2.2.2, e1⟩
def fldB (K : PySem.W.Frag) (f : Str) (cs : List Str) : Bool := cs.all fun c => onCls K c fun C => xfB K C && (PySem.W.findIn K (.ref C) f == some none)
theorem fldV_ok {f : Str} (h1 : fldB K f cs = true) : FldV K ⟨clN K, TT⟩ f cs := ⟨fun c hc => by
  obtain ⟨C, e1, e2⟩ := onCls_ok (List.all_eq_true.mp h1 c (List.contains_iff_mem.mp hc))
  rw [Bool.and_eq_true, beq_iff_eq] at e2
  exact ⟨C, e1, xfB_ok e2.1, e2.2⟩⟩
end
/-! ### classes with an own __init__ -/
def methSt (st : Stmt) (j : Nat) : Stmt := (C8.clsBody st).getD j (.Pass ⟨0, 0, 0, 0⟩)
section
variable {P : Program} {w : World} {K : PySem.W.Frag} {mg : Str → Option Value} {base : Heap} {TT : List (Addr × Str)}
theorem mkV_of {x f sn n b qual : Str} {ini new0 b1 b2 : String} {C fI : Addr} {st : Stmt} {nm q : Str} {N : Addr} {bs bm : List Value} {sl : List Str} {sub : List Value} {ab : Bool} {col : Option Bool} {dd : Option Addr} {k0 k1 k2 k3 k5 : Option Value}
    {od an : Option Addr} {osl : Array (Option Value)} {oc kV doc pm cdv ct : Value} {p1 p2 p3 p4 p5 p6 p7 p8 p9 p10 : Pos}
    (lx : K.lookup C = some (excClassObj nm q C N bs bm true sl sub ab col dd k0 k1 k2 k3 k5 new0)) (xb : XB b1 new0 b2 ini bm) (sa : PySem.W.findIn K (.ref C) "__setattr__" = some (some (.builtin "object.__setattr__")))
    (iC : PySem.W.findIn K (.ref C) "__init__" = some (some (.ref fI))) (tI : PySem.W.typeIn K (.ref fI) = some (.type "function")) (hno : PySem.W.findIn K (.ref C) f = some none)
    (l : K.lookup fI = some ⟨oc, od, .func (PySem.W.fnOf "__init__" qual (defArgs st) (defBody st) (defScope st) .none kV doc pm an cdv ct), osl⟩) (c : PySem.W.codeIn K cdv qual = true) (kp : PySem.W.keepIn K (.ref fI) = true) (BI : BaseI K mg b ini)
    (S : FnScope [sn, n] [sn, n] (defScope st))
    (hbody : defBody st = [.Expr (.Call (.Attribute (.Name b p1) "__init__" p2) [.Name sn p3, .Name n p4] [] p5) p6, .Assign [.Attribute (.Name sn p7) f p8] (.Name n p9) p10])
    (hsn : Vis (defScope st) sn) (hn : Vis (defScope st) n) (hgb : (defScope st).names.lookup b = some .globalImplicit)
    (hpe : ∀ (X : Cx) (ta : TA), X.K = K → X.mg = mg → Gl X b → PA X [.Name sn p3, .Name n p4] ta → PE X (.Call (.Attribute (.Name b p1) "__init__" p2) [.Name sn p3, .Name n p4] [] p5) (tXI X.K ini ta))
    (d1 : (sn == ("__debug__" : Str)) = false) (d2 : (sn == ("__classdict__" : Str)) = false) (d3 : (n == ("__debug__" : Str)) = false) (d4 : (n == ("__classdict__" : Str)) = false)
    (hs : ∀ Z : PySem.Env, swapsWith (.Name n p9) (some (.Attribute (.Name sn p7) f p8)) p10.line Z = pure false) (hs1 : ∀ Z : PySem.Env, swapsWith (.Call (.Attribute (.Name b p1) "__init__" p2) [.Name sn p3, .Name n p4] [] p5) none p6.line Z = pure false)
    (hb : ∀ (kV doc pm : Value) (an : Option Addr) (cdv ct : Value) (us : List Value), us.length = [sn, n].length → bindArgs (PySem.W.fnOf "__init__" qual (defArgs st) (defBody st) (defScope st) .none kV doc pm an cdv ct) ⟨us, []⟩ = pure ([sn, n].zip us))
    (g : mg x = some (.ref C)) (k : PySem.W.keepIn K (.ref C) = true) (e : clN K x = some C) : MkV P w K mg base ⟨clN K, TT⟩ x f C := by
  have T : OxC K C ini := ⟨⟨nm, q, N, bs, bm, sl, sub, ab, col, dd, k0, k1, k2, k3, k5, b1, new0, b2, lx, xb⟩, sa⟩
  have F := fun_mk (st := st) l c kp
  exact ⟨⟨ini, fI, _, sn, n, T, iC, tI, fn_X F S hbody hsn hn hgb hpe T hno d1 d2 d3 d4 hs hs1, F.binds (ps := [sn, n]) hb⟩, g, k, e⟩
end
end DN
/-! DSo: sorted lists and sets of tuples of ints, by their own order (no bound, any sign). -/
namespace SO
open PySem PyProof.Rows TS
/-- the strict order of tuples of ints -/
def lexB : List Int → List Int → Bool
  | _, [] => false
  | [], _ :: _ => true
  | x :: xs, y :: ys => if x = y then lexB xs ys else decide (x < y)
theorem lex_irr : ∀ a : List Int, lexB a a = false
  | [] => rfl
  | x :: xs => by unfold lexB; rw [if_pos rfl]; exact lex_irr xs
theorem lex_tri : ∀ a b : List Int, lexB a b = true ∨ a = b ∨ lexB b a = true
  | [], [] => .inr (.inl rfl)
  | [], _ :: _ => .inl rfl
  | _ :: _, [] => .inr (.inr rfl)
  | x :: xs, y :: ys => by
    unfold lexB
    by_cases h : x = y
    · subst h
      rw [if_pos rfl, if_pos rfl]
      rcases lex_tri xs ys with h | h | h
      · exact .inl h
      · exact .inr (.inl (by rw [h]))
      · exact .inr (.inr h)
    · rw [if_neg h, if_neg (Ne.symm h), decide_eq_true_eq, decide_eq_true_eq]
      omega
theorem lex_tr : ∀ a b c : List Int, lexB a b = true → lexB b c = true → lexB a c = true
  | [], [], _, h, _ => by cases h
  | [], _ :: _, [], _, h => by cases h
  | [], _ :: _, _ :: _, _, _ => rfl
  | _ :: _, [], _, h, _ => by cases h
  | _ :: _, _ :: _, [], _, h => by cases h
  | x :: xs, y :: ys, z :: zs, h1, h2 => by
    unfold lexB at *
    by_cases e1 : x = y
    · subst e1
      rw [if_pos rfl] at h1
      by_cases e2 : x = z
      · subst e2
        rw [if_pos rfl] at h2 ⊢
        exact lex_tr xs ys zs h1 h2
      · rw [if_neg e2] at h2 ⊢
        exact h2
    · rw [if_neg e1] at h1
      have h1 := of_decide_eq_true h1
      by_cases e2 : y = z
      · subst e2
        rw [if_neg e1]
        exact decide_eq_true h1
      · rw [if_neg e2] at h2
        have h2 := of_decide_eq_true h2
        rw [if_neg (by omega)]
        exact decide_eq_true (by omega)
/-- how many stand ahead -/
def rk (L : List (List Int)) (ns : List Int) : Nat := L.countP fun u => lexB u ns
theorem countP_lt {α : Type} {p q : α → Bool} : ∀ {L : List α}, (∀ x ∈ L, p x = true → q x = true) → (∃ x ∈ L, p x = false ∧ q x = true) → L.countP p < L.countP q
  | [], _, ⟨_, h, _⟩ => by cases h
  | y :: L, h, ⟨x, hx, hp, hq⟩ => by
    have mono : L.countP p ≤ L.countP q := List.countP_mono_left fun z hz => h z (List.mem_cons_of_mem _ hz)
    rcases List.mem_cons.mp hx with rfl | hx
    · rw [List.countP_cons_of_neg (by rw [hp]; decide), List.countP_cons_of_pos hq]
      omega
    · have ih := countP_lt (fun z hz => h z (List.mem_cons_of_mem _ hz)) ⟨x, hx, hp, hq⟩
      cases py : p y with
      | true => rw [List.countP_cons_of_pos py, List.countP_cons_of_pos (h y List.mem_cons_self py)]; omega
      | false =>
        rw [List.countP_cons_of_neg (by rw [py]; decide)]
        cases qy : q y with
        | true => rw [List.countP_cons_of_pos qy]; omega
        | false => rw [List.countP_cons_of_neg (by rw [qy]; decide)]; exact ih
theorem rk_lt {L : List (List Int)} {a b : List Int} (ha : a ∈ L) : rk L a < rk L b ↔ lexB a b = true := by
  constructor
  · intro h
    rcases lex_tri a b with z | z | z
    · exact z
    · subst z; exact absurd h (Nat.lt_irrefl _)
    · have : rk L b ≤ rk L a := List.countP_mono_left fun u _ hu => lex_tr u b a hu z
      omega
  · intro h
    exact countP_lt (fun u _ hu => lex_tr u a b hu h) ⟨a, ha, lex_irr a, h⟩
section
variable {prog : Program} {w : World} {A : Around} {E : Value → Shared → Prop} {s : Shared}
theorem lexI {b : Bool} {Q : Bool → Shared → Prop} : ∀ {xs ys : List Value} {ns ms : List Int} (i : Nat), IntsAre xs ns → IntsAre ys ms → ns.length = ms.length → Q (lexB ns ms) s → PySem.W.KatLex prog w A b false Q (xs.zip ys) i s
  | [], [], _, _, i, .nil, .nil, _, h => PySem.W.kat_nil h
  | [], _ :: _, _, _, _, .nil, .cons _ _ _, hl, _ => by simp at hl
  | _ :: _, [], _, _, _, .cons _ _ _, .nil, hl, _ => by simp at hl
  | _ :: xs, _ :: ys, p :: ns, q :: ms, i, .cons _ t hx, .cons _ u hy, hl, h => by
    have hl' : ns.length = ms.length := by simpa using hl
    show PySem.W.KatLex prog w A b false Q ((Value.int p t, Value.int q u) :: xs.zip ys) i s
    refine PySem.W.kat_cons (wpAny_eqBool_int ?_)
    unfold lexB at h
    by_cases e : p = q
    · subst e
      rw [if_pos rfl] at h
      rw [beq_self_eq_true]
      exact PySem.W.kat_yes (lexI (i + 1) hx hy hl' h)
    · rw [if_neg e] at h
      have ne : (p == q) = false := beq_eq_false_iff_ne.mpr e
      rw [ne]
      exact PySem.W.kat_no (oneLt_ints _ h)
/-- tuples of d ints -/
def Tups (h : Heap) (d : Nat) (vs : List Value) : Prop := ∀ v ∈ vs, ∃ ns, TupInts h v ns ∧ ns.length = d
theorem heads {h : Heap} {d : Nat} (hd : 1 ≤ d) : ∀ vs : List Value, Tups h d vs → ∃ fs, PySem.W.KatTups h vs fs ∧ fs.length = vs.length ∧ ∀ f ∈ fs, ∃ n t, f = Value.int n t
  | [], _ => ⟨[], .nil, rfl, fun _ hf => by cases hf⟩
  | v :: vs, x => by
    obtain ⟨fs, k, kl, ki⟩ := heads hd vs fun u hu => x u (List.mem_cons_of_mem _ hu)
    obtain ⟨ns, ⟨a, xs, rfl, ⟨o, ho, hc, n, hdt⟩, is⟩, hn⟩ := x v List.mem_cons_self
    cases q : xs.toList with
    | nil =>
      have l := is.length
      rw [q, hn] at l
      simp at l
      omega
    | cons y ys =>
      obtain ⟨m, t, hy⟩ := is.all y (by rw [q]; exact List.mem_cons_self)
      have first : xs[0]? = some y := by
        have z := congrArg (fun l : List Value => l[0]?) q
        simpa using z
      refine ⟨y :: fs, PySem.W.KatTups.cons ho hc hdt first k, by simp [kl], fun f hf => ?_⟩
      rcases List.mem_cons.mp hf with rfl | hf
      · exact ⟨m, t, hy⟩
      · exact ki f hf
/-- the rank of a value: of its ints, among L -/
def rkV (L : List (List Int)) (h : Heap) (v : Value) : Int := (rk L (intsOf h v) : Nat)
theorem kindT {L : List (List Int)} {d : Nat} {vs : List Value} (hd : 1 ≤ d) (two : 2 ≤ vs.length) (x : Tups s.heap d vs) (r : Value → Int) (hr : ∀ v ∈ vs, r v = rkV L s.heap v) (hL : ∀ v ∈ vs, intsOf s.heap v ∈ L) (Q : SortKind → Shared → Prop)
    (h : ∀ κ, Cmp prog w A s κ (pairsOf vs) r → Q κ s) : wpAny (model prog w) A (keyKind' vs.toArray) Q E s := by
  obtain ⟨fs, k, kl, ki⟩ := heads hd vs x
  refine PySem.W.kat_kind (T := Value.type "int") k (by omega) (fun f hf => ?_) rfl (h _ ?_)
  · obtain ⟨n, t, e⟩ := ki f hf
    rw [e]
    exact PySem.W.Looks.of_pure rfl
  intro p q hp hq Q' E' hQ
  rw [pairsOf_toList] at hp hq
  have mp := (mem_zip_self hp).2
  have mq := (mem_zip_self hq).2
  obtain ⟨ns, tp, lp⟩ := x _ mp
  obtain ⟨ms, tq, lq⟩ := x _ mq
  have ip := tp.ints
  have iq := tq.ints
  have z : decide (r p.1 < r q.1) = lexB ns ms := by
    rw [hr _ mp, hr _ mq]
    unfold rkV
    rw [ip, iq]
    have m : ns ∈ L := by rw [← ip]; exact hL _ mp
    have g := rk_lt (b := ms) m
    cases c : lexB ns ms with
    | true =>
      have := g.mpr c
      exact decide_eq_true (by omega)
    | false =>
      refine decide_eq_false fun y => ?_
      have := g.mp (by omega)
      rw [c] at this
      cases this
  rw [z] at hQ
  obtain ⟨a, xs, e1, ⟨o, ho, hc, n, hdt⟩, is⟩ := tp
  obtain ⟨a', ys, e2, ⟨o', ho', hc', n', hdt'⟩, is'⟩ := tq
  rw [e1, e2]
  refine PySem.W.kat_lt ho hdt ho' hdt' ?_
  have l1 := is.length
  have l2 := is'.length
  rw [Array.length_toList] at l1 l2
  have sz : decide (xs.size < ys.size) = false := decide_eq_false (by omega)
  rw [sz]
  exact lexI 0 is is' (by omega) hQ
theorem Tups.keeps {h h' : Heap} {d : Nat} {vs : List Value} (x : Tups h d vs) (k : ∀ b o, h.get? b = some o → o.cls = .type "tuple" → h'.get? b = some o) : Tups h' d vs := fun v hv =>
  let ⟨ns, t, l⟩ := x v hv; ⟨ns, t.keeps k, l⟩
/-- u does not stand behind v -/
def LeV (h : Heap) (u v : Value) : Prop := lexB (intsOf h v) (intsOf h u) = false
theorem sortT {a : Addr} {vs : List Value} {n d : Nat} {P : PySem.Fin → Shared → Prop} (ho : s.heap.get? a = some (seqObj "list" vs.toArray n)) (h64 : vs.length < 64) (hd : 1 ≤ d) (x : Tups s.heap d vs)
    (h : ∀ out : Array Value, out.toList.Perm vs → out.toList.Pairwise (LeV s.heap) → P (.done (.ret .none)) { s with heap := sortedHeap s.heap a vs out }) : wpAny (model prog w) A (Builtin.«list.sort» ⟨[.ref a], []⟩) P E s := by
  have keep : ∀ b o, s.heap.get? b = some o → o.cls = .type "tuple" → (midHeap s.heap a vs).get? b = some o := by
    intro b o e hc
    refine midHeap_old (fun z => ?_) e
    subst z
    rw [ho] at e
    have e := Option.some.inj e
    rw [← e] at hc
    have hc : Value.type "list" = Value.type "tuple" := hc
    injection hc with hc
    revert hc
    decide
  have same : ∀ v ∈ vs, intsOf (midHeap s.heap a vs) v = intsOf s.heap v := fun v hv => by
    obtain ⟨ns, t, _⟩ := x v hv
    rw [t.ints, (t.keeps keep).ints]
  refine SK.plain_sort (r := rkV (vs.map (intsOf s.heap)) s.heap) ho h64 (fun two Q hQ => ?_) fun ps out h1 h2 h3 => ?_
  · refine kindT (L := vs.map (intsOf s.heap)) (s := { s with heap := midHeap s.heap a vs }) hd two (x.keeps keep) _ (fun v hv => ?_) (fun v hv => ?_) Q hQ
    · unfold rkV; rw [same v hv]
    · show intsOf (midHeap s.heap a vs) v ∈ _
      rw [same v hv]
      exact List.mem_map.mpr ⟨v, hv, rfl⟩
  · obtain ⟨pm, od⟩ := out_rank h1 h2 h3
    refine h out pm (od.imp_of_mem fun {u v} hu hv hle => ?_)
    unfold LeV
    cases c : lexB (intsOf s.heap v) (intsOf s.heap u) with
    | false => rfl
    | true =>
      have m : intsOf s.heap v ∈ vs.map (intsOf s.heap) := List.mem_map.mpr ⟨v, pm.mem_iff.mp hv, rfl⟩
      have := (rk_lt (b := intsOf s.heap u) m).mpr c
      unfold rkV at hle
      omega
end
end SO
/-! DSp: sorted(..) of a list and of a set of tuples of ints. -/
namespace SO
open PySem PyProof.Rows TS
section
variable {prog : Program} {w : World} {A : Around} {E : Value → Shared → Prop} {s : Shared}
theorem callSort {a : Addr} {vs : List Value} {n d : Nat} {Q : Value → Shared → Prop} (ho : s.heap.get? a = some (seqObj "list" vs.toArray n)) (few : vs.length < 64) (hd : 1 ≤ d) (x : Tups s.heap d vs)
    (h : ∀ out : Array Value, out.toList.Perm vs → out.toList.Pairwise (LeV s.heap) → Q .none { s with heap := sortedHeap s.heap a vs out }) : wpAny (model prog w) A (call (.builtin "list.sort") [.ref a]) Q E s := by
  have body := fun P hP => sortT (prog := prog) (w := w) (A := A.in1) (E := E) (P := P) ho few hd x hP
  refine wpAny_call_entry slot_list_sort ⟨_, ho, rfl⟩ entry_list_sort ?_ (args_list_sort _)
  exact sortT ho few hd x fun out pm od => ⟨_, rfl, h out pm od⟩
theorem sortedT {l : Addr} {vs : List Value} {d : Nat} {Q : Value → Shared → Prop} (hl : s.heap.IsList l vs.toArray) (few : vs.length < 64) (hd : 1 ≤ d) (x : Tups s.heap d vs)
    (h : ∀ out : Array Value, out.toList.Perm vs → out.toList.Pairwise (LeV s.heap) → Q (.ref (s.heap.objs.size + 1)) { s with heap := sortedAll s.heap vs out }) : wpAny (model prog w) A (call (.builtin "sorted") [.ref l]) Q E s := by
  have fits : vs.length ≤ sizeLine := by rw [sizeLine_eq]; omega
  refine Calls.call_function_entry kind_sorted plain_sorted entry_sorted (args_sorted1 _) ?_
  unfold Builtin.«sorted»
  refine wpAny_bind (m := checkCount "sorted" 1 1 _) (wpAny_pure (wpAny_bind (collect_list hl ?_ fits)))
  refine wpAny_bind (wpAny_newList ?_ fits)
  generalize eh : (s.heap.push (seqObj "list" #[] 0)).update s.heap.objs.size (Obj.mapSeq (· ++ vs.toArray)) = h1
  have sz : h1.objs.size = s.heap.objs.size + 1 := by rw [← eh, Heap.size_update, size_push']
  have old : ∀ b o, s.heap.get? b = some o → h1.get? b = some o := fun b o q => by
    have lt : b < s.heap.objs.size := Heap.lt_size q
    rw [← eh, Heap.get?_update_ne _ _ _ _ (Nat.ne_of_lt lt), Heap.get?_push_ne _ _ _ (Nat.ne_of_lt lt)]
    exact q
  have old2 : ∀ b o, s.heap.get? b = some o → (h1.push (seqObj "list" vs.toArray 0)).get? b = some o := fun b o q => by
    have lt : b < s.heap.objs.size := Heap.lt_size q
    rw [Heap.get?_push_ne _ _ _ (by rw [sz]; exact Nat.ne_of_lt (Nat.lt_succ_of_lt lt))]
    exact old b o q
  have new : (h1.push (seqObj "list" vs.toArray 0)).get? (s.heap.objs.size + 1) = some (seqObj "list" vs.toArray 0) := by
    rw [← sz]
    exact Heap.get?_push_size _ rfl
  have same : ∀ v ∈ vs, intsOf (h1.push (seqObj "list" vs.toArray 0)) v = intsOf s.heap v := fun v hv => by
    obtain ⟨ns, t, _⟩ := x v hv
    rw [t.ints, (t.keeps fun b o q _ => old2 b o q).ints]
  show wpAny _ _ _ _ _ { s with heap := h1.push (seqObj "list" vs.toArray 0) }
  rw [sz]
  refine wpAny_bind (wpAny_holding (callSort (s := { s with heap := h1.push (seqObj "list" vs.toArray 0) }) new few hd (x.keeps fun b o q _ => old2 b o q) fun out pm od => ?_))
  refine wpAny_pure ⟨_, rfl, ?_⟩
  have fin := h out pm (od.imp_of_mem fun {u v} hu hv le => by
    have le : lexB (intsOf (h1.push (seqObj "list" vs.toArray 0)) v) (intsOf (h1.push (seqObj "list" vs.toArray 0)) u) = false := le
    rw [same u (pm.mem_iff.mp hu), same v (pm.mem_iff.mp hv)] at le
    exact le)
  have e : sortedHeap (h1.push (seqObj "list" vs.toArray 0)) (s.heap.objs.size + 1) vs out = sortedAll s.heap vs out := by
    rw [← eh]
    first | rfl | (unfold sortedAll; rfl)
  rw [← e] at fin
  exact fin
end
end SO

namespace L2
open PySem PySem.Spec PyProof.Rows
section
variable {P : Program} {w : World} {A : Around} {E : Value → Shared → Prop} {s : Shared}
/-- the values are rows of L -/
theorem rows_of (L : List (Addr × List Int)) : ∀ vs : List Value, (∀ v ∈ vs, ∃ q ∈ L, v = Value.ref q.1) → ∃ M : List (Addr × List Int), vs = M.map (fun q => Value.ref q.1) ∧ ∀ q ∈ M, q ∈ L
  | [], _ => ⟨[], rfl, fun _ h => by cases h⟩
  | v :: vs, h => by
    obtain ⟨q, hq, rfl⟩ := h v List.mem_cons_self
    obtain ⟨M, rfl, hM⟩ := rows_of L vs fun u hu => h u (List.mem_cons_of_mem _ hu)
    refine ⟨q :: M, rfl, fun r hr => ?_⟩
    rcases List.mem_cons.mp hr with rfl | hr
    · exact hq
    · exact hM r hr
theorem sortedS {a : Addr} {L : List (Addr × List Int)} {es : Array (Int × Value)} {ep : Nat} {t : SetTable} {Q : Value → Shared → Prop} (R : SetTR P w s.heap a L es ep t) (hh : A.handled = none) {d : Nat} (hd : 1 ≤ d) (hB : ∀ p ∈ L, p.2.length = d)
    (hQ : ∀ s' p (out : Array Value) (c : Nat) (M : List (Addr × List Int)), (∀ b o, s.heap.get? b = some o → s'.heap.get? b = some o) → s'.gens = s.gens → s'.os = s.os → s.heap.objs.size ≤ p →
      s'.heap.get? p = some (seqObj "list" out c) → out.toList = M.map (fun q => Value.ref q.1) → M.Perm L → M.Pairwise (fun q r => SO.lexB r.2 q.2 = false) → Q (.ref p) s') : wpAny (model P w) A (call (.builtin "sorted") [.ref a]) Q E s := by
  obtain ⟨o, ho, hex, hdt⟩ := R.ob
  have few := R.few
  have rsz := R.size
  refine Calls.call_function_entry kind_sorted plain_sorted entry_sorted (args_sorted1 _) ?_
  unfold Builtin.«sorted»
  refine wpAny_bind (m := checkCount "sorted" 1 1 _) (wpAny_pure ?_)
  refine wpAny_bind (collect_set (A := A.in1) hh ⟨o, ho, hex.1, hdt⟩ R.fits (by unfold scanBound; omega) R.tab.ris R.led fun s1 vs keep1 big g1 o1 pm => ?_)
  have vals : es.toList.map (·.2) = L.map fun q => Value.ref q.1 := by
    rw [R.rows]
    unfold rowsOf
    rw [List.map_map]
    rfl
  rw [vals] at pm
  have inj : ∀ q ∈ L, ∀ r ∈ L, q.1 = r.1 → q = r := fun q hq r hr e => by
    have tq := R.tup q hq
    rw [e] at tq
    exact Prod.ext e (tq.inj (R.tup r hr))
  have nd : L.Nodup := nodup_of_map R.nd
  have back : ∀ M : List (Addr × List Int), (∀ q ∈ M, q ∈ L) → (M.map (fun q => Value.ref q.1)).Perm (L.map fun q => Value.ref q.1) → M.Perm L := by
    intro M hM pM
    have ndR : (L.map fun q => Value.ref q.1).Nodup := List.pairwise_map.mpr (nd.imp_of_mem fun {q r} hq hr ne e => ne (inj q hq r hr (by injection e)))
    refine (List.perm_ext_iff_of_nodup (nodup_of_map (pM.nodup_iff.mpr ndR)) nd).mpr fun q => ⟨hM q, fun hq => ?_⟩
    obtain ⟨r, hr, e⟩ := List.mem_map.mp (pM.mem_iff.mpr (List.mem_map.mpr ⟨q, hq, rfl⟩))
    have e : r.1 = q.1 := by injection e
    rw [← inj r (hM r hr) q hq e]
    exact hr
  have vlen : vs.length < 64 := by rw [pm.length_eq, List.length_map]; exact few
  refine wpAny_bind (wpAny_newList ?_ (by rw [sizeLine_eq]; omega))
  generalize eh : s1.heap.push (seqObj "list" vs.toArray 0) = h2
  have new : h2.get? s1.heap.objs.size = some (seqObj "list" vs.toArray 0) := by rw [← eh]; exact Heap.get?_push_size _ rfl
  have old : ∀ b u, s.heap.get? b = some u → h2.get? b = some u := fun b u q => by rw [← eh]; exact Heap.get?_push_of_some _ (keep1 b u q)
  have tk : ∀ q ∈ L, TS.TupInts h2 (.ref q.1) q.2 := fun q hq => tupInts_of (P := P) (w := w) (isT_keep (R.tup q hq) old)
  have x : SO.Tups h2 d vs := fun v hv => by
    obtain ⟨q, hq, e⟩ := List.mem_map.mp (pm.mem_iff.mp hv)
    rw [← e]
    exact ⟨q.2, tk q hq, hB q hq⟩
  refine wpAny_bind (wpAny_holding (SO.callSort (s := { s1 with heap := h2 }) new vlen hd x fun out a1 a2 => ?_))
  obtain ⟨c, hc⟩ := sortedHeap_at (vs := vs) (out := out) new
  obtain ⟨M, eM, sM⟩ := rows_of L out.toList fun v hv => by
    obtain ⟨q, hq, e⟩ := List.mem_map.mp (pm.mem_iff.mp (a1.mem_iff.mp hv))
    exact ⟨q, hq, e.symm⟩
  refine wpAny_pure ⟨_, rfl, hQ _ s1.heap.objs.size out c M (fun b u q => ?_) g1 o1 big hc eM (back M sM (by rw [← eM]; exact a1.trans pm)) ?_⟩
  · have lt := Heap.lt_size (keep1 b u q)
    show (sortedHeap h2 s1.heap.objs.size vs out).get? b = some u
    rw [sortedHeap_old (Nat.ne_of_lt lt) (by rw [← eh, size_push']; exact Nat.lt_succ_of_lt lt)]
    exact old b u q
  · rw [eM] at a2
    refine (List.pairwise_map.mp a2).imp_of_mem fun {q r} hq hr le => ?_
    have le : SO.lexB (TS.intsOf h2 (.ref r.1)) (TS.intsOf h2 (.ref q.1)) = false := le
    rw [(tk q (sM q hq)).ints, (tk r (sM r hr)).ints] at le
    exact le
end
section
variable {X : Cx}
/-- sorted(set) of tuples of d ints -/
def rSortS (K : PySem.W.Frag) (P : Program) (w : World) : List V → Hp → VK → Prop := fun vs H Q => ∃ (a : Addr) (L : List (Addr × List Int)) (d : Nat), vs = [V.ref a] ∧ H a = some (SetTO P w a L) ∧ (∀ p ∈ L, SqT K H p.1 (p.2.map V.int)) ∧ 1 ≤ d ∧ (∀ p ∈ L, p.2.length = d) ∧
  ∀ (M : List (Addr × List Int)) (p : Addr), M.Perm L → (M.map (·.2)).Nodup → M.Pairwise (fun q r => SO.lexB r.2 q.2 = false) → H p = none → Q (.ref p) (upd H p (.lst (M.map fun q => V.ref q.1)))
theorem cr_sortS (hc : X.calm = true) : CallR X (.builtin "sorted") (rSortS X.K X.prog X.w) := by
  intro pins s σ H vs us Q I r ⟨a, L, d, ev, ha, hk, hd, hB, q⟩
  subst ev
  obtain ⟨es, ep, t, R⟩ := SetT0.full (I.hok a _ ha).1 fun p hp => I.isT (hk p hp)
  rw [Vals.ref1 r]
  refine sortedS R (I.ok.hd hc) hd hB fun s' p out c M keep g o big at_ eM pm od => ?_
  have few : M.length < 64 := by rw [pm.length_eq]; exact R.few
  have fresh : H p = none := I.hok.fresh big
  have len : (M.map fun q => V.ref q.1).length ≤ sizeLine := by rw [List.length_map, sizeLine_eq]; omega
  have vals : Vals (M.map fun q => V.ref q.1) out.toList := by rw [eM]; exact vals_of_refs M
  have e : s' = { s with heap := s'.heap, gens := s'.gens, drawn := s'.drawn, toks := s'.toks } := by
    cases s'
    cases s
    cases o
    rfl
  have J : Inv X pins σ (upd H p (.lst (M.map fun q => V.ref q.1))) { s with heap := s'.heap, gens := s'.gens, drawn := s'.drawn, toks := s'.toks } :=
    I.call (ch := []) (Un.laid keep big fresh) (I.hok.laid keep big ⟨len, out.toList, c, vals, at_⟩) (by rw [g]; exact I.bare) (fun _ z => nomatch z)
  rw [e]
  exact ⟨.ref p, _, J, rfl, q M p pm ((pm.map (·.2)).nodup_iff.mpr R.nd) od fresh⟩
/-- sorted(list) of tuples of d ints -/
def rSortL (K : PySem.W.Frag) : List V → Hp → VK → Prop := fun vs H Q => ∃ (a : Addr) (ks : List (Addr × List Int)) (d : Nat), vs = [V.ref a] ∧ SqL K H a (ks.map fun p => V.ref p.1) ∧ (∀ p ∈ ks, SqT K H p.1 (p.2.map V.int)) ∧ ks.length < 64 ∧ 1 ≤ d ∧ (∀ p ∈ ks, p.2.length = d) ∧
  ∀ (M : List (Addr × List Int)) (p : Addr), (∀ q ∈ M, q ∈ ks) → (M.map (·.2)).Perm (ks.map (·.2)) → M.Pairwise (fun q r => SO.lexB r.2 q.2 = false) → H p = none → Q (.ref p) (upd H p (.lst (M.map fun q => V.ref q.1)))
theorem cr_sortL : CallR X (.builtin "sorted") (rSortL X.K) := by
  intro pins s σ H vs us Q I r ⟨a, ks, d, ev, hs, hk, few, hd, hB, q⟩
  subst ev
  rw [Vals.ref1 r]
  obtain ⟨its, rv, hl, hz⟩ := I.list hs
  have ei : its = ks.map fun p => Value.ref p.1 := refs_of_vals rv
  have tk : ∀ p ∈ ks, TS.TupInts s.heap (.ref p.1) p.2 := fun p hp => tupI_raw I (hk p hp)
  refine SO.sortedT (d := d) hl.isList (by rw [ei, List.length_map]; exact few) hd (fun v hv => ?_) fun out a1 a2 => ?_
  · rw [ei] at hv
    obtain ⟨p, hp, e⟩ := List.mem_map.mp hv
    rw [← e]
    exact ⟨p.2, tk p hp, hB p hp⟩
  rw [ei] at a1
  obtain ⟨M, eM, sM⟩ := rows_of ks out.toList fun v hv => by
    obtain ⟨p, hp, e⟩ := List.mem_map.mp (a1.mem_iff.mp hv)
    exact ⟨p, hp, e.symm⟩
  obtain ⟨ep, at_⟩ := PyProof.Rows.sortedAll_at s.heap its out
  have mlen : M.length = ks.length := by
    have := a1.length_eq
    rw [eM, List.length_map, List.length_map] at this
    exact this
  have len : (M.map fun q => V.ref q.1).length ≤ sizeLine := by rw [List.length_map, sizeLine_eq]; omega
  have vals : Vals (M.map fun q => V.ref q.1) out.toList := by rw [eM]; exact vals_of_refs M
  refine ⟨.ref _, upd H (s.heap.objs.size + 1) (.lst (M.map fun q => V.ref q.1)), I.laid (t' := s.toks) (fun _ _ => PyProof.Rows.sortedAll_old) (Nat.le_succ _) ⟨len, out.toList, ep, vals, at_⟩, rfl, q M _ sM ?_ ?_ (I.hok.fresh (Nat.le_succ _))⟩
  · have f : ∀ N : List (Addr × List Int), (∀ p ∈ N, p ∈ ks) → N.map (·.2) = (N.map fun p => Value.ref p.1).map (TS.intsOf s.heap) := fun N hN => by
      rw [List.map_map]
      refine List.map_congr_left fun p hp => ?_
      exact (tk p (hN p hp)).ints.symm
    rw [f M sM, f ks fun _ h => h, ← eM]
    exact a1.map _
  · rw [eM] at a2
    refine (List.pairwise_map.mp a2).imp_of_mem fun {p r} hp hr le => ?_
    have le : SO.lexB (TS.intsOf s.heap (.ref r.1)) (TS.intsOf s.heap (.ref p.1)) = false := le
    rw [(tk p (sM p hp)).ints, (tk r (sM r hr)).ints] at le
    exact le
end
end L2
/-! DSq: set(..) of a tuple of tuples of ints. -/
namespace L2
open PySem PySem.Spec PyProof.Rows
section
variable {P : Program} {w : World} {A : Around} {E : Value → Shared → Prop} {s : Shared}
abbrev bareSet (w : World) : Obj := { cls := .type "set", dict := none, data := .set #[] 0 (.fresh 0 0 (!w.params.followText "set-order")) }
theorem setOfTuple {l : Addr} {items : Array Value} (ks : List (Addr × List Int)) {Q : Value → Shared → Prop} (free : A.handled = none) (hl : s.heap.IsTuple l items) (hit : items.toList = ks.map fun p => Value.ref p.1)
    (hk : ∀ p ∈ ks, IsT P w s.heap p.2 p.1) (few : ks.length < 64) (room : A.units + 3 < cLine)
    (h : ∀ (h' : Heap) (tk : Nat) L es ep t, SetTR P w h' s.heap.objs.size L es ep t → Got ks ks.length L → (∀ b o, s.heap.get? b = some o → h'.get? b = some o) → Q (.ref s.heap.objs.size) { s with heap := h', toks := tk }) :
    wpAny (model P w) A (call (.type "set") [.ref l]) Q E s := by
  have many : items.size = ks.length := by
    have z := congrArg List.length hit
    simpa using z
  obtain ⟨c, tl, hmro⟩ := F.called_set.mro
  have hmade := F.called_set.made
  have hsub := F.called_set.sub
  refine wpAny_call (codeAny_of_tree ?_)
  show wpAny _ _ (callAny (.type "set") _) _ _ _
  have quiet := Code.quiet_builtin (id := "type.__call__") ⟨[.type "set", .ref l], []⟩ (by decide +kernel)
  refine wpAny_pure ⟨Code.quiet_builtin _ (by decide +kernel), codeAny_builtin F.entry_type_call ?_⟩
  rw [Around.under_plain (weight_type_call_type "set" [.ref l] []) rfl]
  have n1 := F.called_set.notType
  have n2 := F.called_set.canCreate
  have n3 := F.typeCall_set_1 (.ref l)
  repeat (any_goals (first | assumption | wp_step))
  refine codeAny_mono (code_set_led1 (.ref l) (E := E) (Q₁ := fun obj s₁ => obj = .ref s.heap.objs.size ∧ s₁ = { s with heap := s.heap.push (bareSet w) }) ⟨rfl, rfl⟩) fun r s₁ hr => ?_
  cases r with
  | error e => exact hr
  | ok fl =>
    cases fl with
    | ret obj =>
      obtain ⟨rfl, rfl⟩ := hr
      have got : (s.heap.push (bareSet w)).get? s.heap.objs.size = some (bareSet w) := Heap.get?_push_size _ rfl
      have hT : Shared.TypeIs { s with heap := s.heap.push (bareSet w) } (.ref s.heap.objs.size) "set" := ⟨_, got, rfl⟩
      have i1 := F.called_set.init.lookup
      have i2 := F.called_set.init.bind (.ref s.heap.objs.size)
      repeat (any_goals (first | assumption | wp_step))
      refine codeAny_mono (codeAny_call_builtin (R := wants (fun r s₂ => r = .none ∧ ∃ h' tk L es ep t, s₂ = { s with heap := h', toks := tk } ∧ SetTR P w h' s.heap.objs.size L es ep t ∧ Got ks ks.length L ∧ (∀ b o, s.heap.get? b = some o → h'.get? b = some o)) E)
        F.called_set.init.plain F.entry_set_init (check_set_init_1 hT ?_)) fun r₂ s₂ hr₂ => ?_
      · obtain ⟨ol, hol, hcl, nl, hdl⟩ := hl
        obtain ⟨ocls, odict, odata, oslots⟩ := ol
        simp only at hcl hdl
        subst hcl hdl
        have there : (s.heap.push (bareSet w)).get? l = some { cls := .type "tuple", dict := odict, data := .seq items nl, slots := oslots } := Heap.get?_push_of_some _ hol
        have k1 := F.sub_tuple_set
        have k2 := F.sub_tuple_frozenset
        have k3 : (Value.type "tuple" == Value.type "dict") = false := by decide
        have it1 : (s.heap.push (bareSet w)).IsTuple l items := ⟨_, there, rfl, nl, rfl⟩
        unfold Builtin.«set.__init__» noKeywords Builtin.Frozenset.updateFrom
        generalize keep_pyIter : pyIter = PI
        wp_walk
        subst keep_pyIter
        refine wpAny_pyIter_tuple it1 ?_
        refine wpAny_bind (wpAny_runValue ?_)
        have below : l < s.heap.objs.size := Heap.lt_size hol
        have free3 : A.in1.in1.in1.handled = none := by simp [free]
        have other : l ≠ (s.heap.push (bareSet w)).objs.size := by
          rw [Heap.size_push]
          exact Nat.ne_of_lt (Nat.lt_succ_of_lt below)
        have apart : s.heap.objs.size ∉ [(s.heap.push (bareSet w)).objs.size, l] := by
          rw [Heap.size_push]
          simp only [List.mem_cons, List.mem_singleton, List.not_mem_nil, or_false, not_or]
          exact ⟨Nat.ne_of_lt (Nat.lt_succ_self _), Nat.ne_of_gt below⟩
        have vals : ∀ (i : Nat) (v : Value), items[i]? = some v → ∃ p, ks[i]? = some p ∧ v = .ref p.1 := fun i v hv => by
          have z : items.toList[i]? = some v := by rw [Array.getElem?_toList]; exact hv
          rw [hit, List.getElem?_map, Option.map_eq_some_iff] at z
          obtain ⟨p, e1, e2⟩ := z
          exact ⟨p, e1, e2.symm⟩
        have none_of : ∀ b, s.heap.objs.size ≤ b → s.heap.get? b = none := fun b hb => by
          cases z : s.heap.get? b with
          | none => rfl
          | some o => exact absurd (Heap.lt_size z) (Nat.not_lt.mpr hb)
        refine set_update_tups ((Walks.tuple free3 _ l other items).toS) s.heap.objs.size apart ks many few vals s.heap hk (none_of _ (Nat.le_refl _)) (fun b hb => none_of b (by
            rw [List.mem_singleton.mp hb, Heap.size_push]
            exact Nat.le_succ _)) room (items.size - 0) 0 _ (by omega) (Nat.zero_le _) ⟨⟨_, Heap.get?_push_size _ rfl, rfl, rfl⟩, (it1.push _)⟩ (fun b o e => Heap.get?_push_of_some _ (Heap.get?_push_of_some _ e)) ?start ?done
        case start => exact ⟨[], #[], 0, _, setTR_fresh (Heap.get?_push_of_some _ got), Got.zero ks⟩
        case done =>
          intro s' L es ep t hm hS' g' hkp
          obtain ⟨h', g2, d', tk', os'⟩ := s'
          have eg : g2 = s.gens := hm.gens
          have ed : d' = s.drawn := hm.drawn
          have eo : os' = s.os := hm.os
          subst eg ed eo
          rw [many] at g'
          show wpAny _ _ _ _ _ _
          refine wpAny_pure ?_
          show wpAny _ _ (ret Value.none) _ _ _
          exact wpAny_pure ⟨rfl, h', tk', L, es, ep, t, rfl, hS', g', hkp⟩
      · cases r₂ with
        | error e => exact hr₂
        | ok fl₂ =>
          cases fl₂ with
          | ret r =>
            obtain ⟨rfl, h', tk, L, es, ep, t, rfl, hS', g', hk'⟩ := hr₂
            repeat (any_goals (first | assumption | wp_step))
            exact h _ _ _ _ _ _ hS' g' hk'
          | _ => exact hr₂.elim
    | _ => exact hr.elim
end
section
variable {X : Cx}
/-- set of a list or a tuple of tuples of ints -/
def rSetA (K : PySem.W.Frag) (P : Program) (w : World) : List V → Hp → VK → Prop := fun xs H Q => ∃ (l : Addr) (ks : List (Addr × List Int)), xs = [V.ref l] ∧ (SqL K H l (ks.map fun p => V.ref p.1) ∨ SqT K H l (ks.map fun p => V.ref p.1)) ∧ (∀ p ∈ ks, SqT K H p.1 (p.2.map V.int)) ∧ ks.length < 64 ∧
  ∀ a L, H a = none → (∀ p ∈ L, p ∈ ks) → (∀ p ∈ ks, p.2 ∈ L.map (·.2)) → Q (.ref a) (upd H a (SetTO P w a L))
theorem cr_setA (hc : X.calm = true) (hu : X.A.units + 64 < cLine) : CallR X (.type "set") (rSetA X.K X.prog X.w) := by
  intro pins s σ H xs us Q I r ⟨l, ks, ex, hl, hk, few, q⟩
  rcases hl with hl | hl
  · exact cr_setOfT hc hu pins s σ H xs us Q I r ⟨l, ks, ex, hl, hk, few, q⟩
  subst ex
  rw [Vals.ref1 r]
  obtain ⟨its, rv, pl, hz⟩ := I.tuple hl
  have fresh : H s.heap.objs.size = none := I.hok.fresh (Nat.le_refl _)
  refine setOfTuple (P := X.prog) (w := X.w) ks (I.ok.hd hc) pl (by simpa using refs_of_vals rv) (fun p hp => I.isT (hk p hp)) few (by omega) fun h' tk L es ep t R g k => ?_
  refine ⟨.ref s.heap.objs.size, upd H s.heap.objs.size (SetTO X.prog X.w s.heap.objs.size L), I.laid (t' := tk) k (Nat.le_refl _) (setTO_new R.t0), rfl, q _ L fresh (fun p hp => List.mem_of_mem_take (g.sub p hp)) fun p hp => g.all p ?_⟩
  rw [List.take_length]
  exact hp
end
end L2
/-! DSr: sorted(set(..)) and sorted(..) of tuples of ints, of data. -/
namespace SO
def insS (k : List Int) : List (List Int) → List (List Int)
  | [] => [k]
  | x :: xs => if lexB k x = true then k :: x :: xs else if k = x then x :: xs else x :: insS k xs
def sortS (ks : List (List Int)) : List (List Int) := ks.foldr insS []
def insL (k : List Int) : List (List Int) → List (List Int)
  | [] => [k]
  | x :: xs => if lexB x k = true then x :: insL k xs else k :: x :: xs
def sortL (ks : List (List Int)) : List (List Int) := ks.foldr insL []
abbrev Asc (ks : List (List Int)) : Prop := ks.Pairwise fun a b => lexB a b = true
theorem mem_insS {k z : List Int} : ∀ {xs : List (List Int)}, z ∈ insS k xs ↔ z = k ∨ z ∈ xs
  | [] => by unfold insS; simp
  | x :: xs => by
    unfold insS
    split
    · simp
    · split
      · rename_i h; subst h; simp
      · rw [List.mem_cons, mem_insS, List.mem_cons]
        constructor
        · rintro (h | h | h)
          · exact .inr (.inl h)
          · exact .inl h
          · exact .inr (.inr h)
        · rintro (h | h | h)
          · exact .inr (.inl h)
          · exact .inl h
          · exact .inr (.inr h)
theorem asc_insS {k : List Int} : ∀ {xs : List (List Int)}, Asc xs → Asc (insS k xs)
  | [], _ => by unfold insS; exact List.pairwise_singleton ..
  | x :: xs, h => by
    have hx := List.pairwise_cons.mp h
    unfold insS
    split
    · rename_i c
      refine List.pairwise_cons.mpr ⟨fun z hz => ?_, h⟩
      rcases List.mem_cons.mp hz with rfl | hz
      · exact c
      · exact lex_tr _ _ _ c (hx.1 z hz)
    · split
      · exact h
      · rename_i c1 c2
        refine List.pairwise_cons.mpr ⟨fun z hz => ?_, asc_insS hx.2⟩
        rcases mem_insS.mp hz with rfl | hz
        · rcases lex_tri x z with t | t | t
          · exact t
          · exact absurd t.symm c2
          · exact absurd t c1
        · exact hx.1 z hz
theorem mem_sortS {z : List Int} : ∀ {ks : List (List Int)}, z ∈ sortS ks ↔ z ∈ ks
  | [] => Iff.rfl
  | k :: ks => by
    show z ∈ insS k (sortS ks) ↔ _
    rw [mem_insS, mem_sortS, List.mem_cons]
theorem asc_sortS : ∀ ks : List (List Int), Asc (sortS ks)
  | [] => List.Pairwise.nil
  | _ :: ks => asc_insS (asc_sortS ks)
theorem asc_uniq : ∀ {as bs : List (List Int)}, Asc as → Asc bs → (∀ z, z ∈ as ↔ z ∈ bs) → as = bs
  | [], [], _, _, _ => rfl
  | [], b :: bs, _, _, h => by have := (h b).mpr List.mem_cons_self; cases this
  | a :: as, [], _, _, h => by have := (h a).mp List.mem_cons_self; cases this
  | a :: as, b :: bs, ha, hb, h => by
    have ha' := List.pairwise_cons.mp ha
    have hb' := List.pairwise_cons.mp hb
    have e : a = b := by
      rcases List.mem_cons.mp ((h a).mp List.mem_cons_self) with e | e
      · exact e
      · rcases List.mem_cons.mp ((h b).mpr List.mem_cons_self) with e' | e'
        · exact e'.symm
        · have x1 := hb'.1 a e
          have x2 := ha'.1 b e'
          have := lex_tr _ _ _ x1 x2
          rw [lex_irr] at this
          cases this
    subst e
    refine congrArg (a :: ·) (asc_uniq ha'.2 hb'.2 fun z => ⟨fun hz => ?_, fun hz => ?_⟩)
    · rcases List.mem_cons.mp ((h z).mp (List.mem_cons_of_mem _ hz)) with e | e
      · subst e
        have := ha'.1 z hz
        rw [lex_irr] at this
        cases this
      · exact e
    · rcases List.mem_cons.mp ((h z).mpr (List.mem_cons_of_mem _ hz)) with e | e
      · subst e
        have := hb'.1 z hz
        rw [lex_irr] at this
        cases this
      · exact e
/-- what sorted leaves of a set -/
theorem set_sorted {M ks : List (List Int)} (nd : M.Nodup) (od : M.Pairwise fun a b => lexB b a = false) (h : ∀ z, z ∈ M ↔ z ∈ ks) : M = sortS ks := by
  refine asc_uniq ((nd.and od).imp fun {a b} ⟨ne, le⟩ => ?_) (asc_sortS ks) fun z => (h z).trans mem_sortS.symm
  rcases lex_tri a b with t | t | t
  · exact t
  · exact absurd t ne
  · rw [le] at t; cases t
abbrev Wk_ (ks : List (List Int)) : Prop := ks.Pairwise fun a b => lexB b a = false
theorem perm_insL (k : List Int) : ∀ xs : List (List Int), (insL k xs).Perm (k :: xs)
  | [] => .refl _
  | x :: xs => by
    unfold insL
    split
    · exact ((perm_insL k xs).cons x).trans (.swap k x xs)
    · exact .refl _
theorem le_tr {a b c : List Int} (h1 : lexB b a = false) (h2 : lexB c b = false) : lexB c a = false := by
  cases q : lexB c a with
  | false => rfl
  | true =>
    rcases lex_tri a b with t | t | t
    · rw [lex_tr _ _ _ q t] at h2; cases h2
    · subst t; rw [q] at h2; cases h2
    · rw [t] at h1; cases h1
theorem lex_as {a b : List Int} (h : lexB a b = true) : lexB b a = false := by
  cases q : lexB b a with
  | false => rfl
  | true =>
    have := lex_tr _ _ _ h q
    rw [lex_irr] at this
    cases this
theorem wk_insL {k : List Int} : ∀ {xs : List (List Int)}, Wk_ xs → Wk_ (insL k xs)
  | [], _ => by unfold insL; exact List.pairwise_singleton ..
  | x :: xs, h => by
    have hx := List.pairwise_cons.mp h
    unfold insL
    split
    · rename_i c
      refine List.pairwise_cons.mpr ⟨fun z hz => ?_, wk_insL hx.2⟩
      rcases List.mem_cons.mp ((perm_insL k xs).mem_iff.mp hz) with rfl | hz
      · exact lex_as c
      · exact hx.1 z hz
    · rename_i c
      have c : lexB x k = false := by cases q : lexB x k with
        | false => rfl
        | true => exact absurd q c
      refine List.pairwise_cons.mpr ⟨fun z hz => ?_, h⟩
      rcases List.mem_cons.mp hz with rfl | hz
      · exact c
      · exact le_tr c (hx.1 z hz)
theorem perm_sortL : ∀ ks : List (List Int), (sortL ks).Perm ks
  | [] => .refl _
  | k :: ks => (perm_insL k (sortL ks)).trans ((perm_sortL ks).cons k)
theorem wk_sortL : ∀ ks : List (List Int), Wk_ (sortL ks)
  | [] => List.Pairwise.nil
  | _ :: ks => wk_insL (wk_sortL ks)
theorem wk_uniq : ∀ {as bs : List (List Int)}, Wk_ as → Wk_ bs → as.Perm bs → as = bs
  | [], [], _, _, _ => rfl
  | [], b :: bs, _, _, h => by have := h.length_eq; simp at this
  | a :: as, [], _, _, h => by have := h.length_eq; simp at this
  | a :: as, b :: bs, ha, hb, h => by
    have ha' := List.pairwise_cons.mp ha
    have hb' := List.pairwise_cons.mp hb
    have e : a = b := by
      rcases List.mem_cons.mp (h.mem_iff.mp List.mem_cons_self) with e | e
      · exact e
      · rcases List.mem_cons.mp (h.mem_iff.mpr List.mem_cons_self) with e' | e'
        · exact e'.symm
        · have x1 := hb'.1 a e
          have x2 := ha'.1 b e'
          rcases lex_tri a b with t | t | t
          · rw [t] at x1; cases x1
          · exact t
          · rw [t] at x2; cases x2
    subst e
    exact congrArg (a :: ·) (wk_uniq ha'.2 hb'.2 h.cons_inv)
end SO

namespace DN
open PySem PySem.Spec PyProof.Rows L2
def intD : D → Option Int
  | .int i => some i
  | _ => none
def intsD : List D → Option (List Int)
  | [] => some []
  | d :: ds => match intD d, intsD ds with
    | some i, some is => some (i :: is)
    | _, _ => none
def keyD : D → Option (List Int)
  | .tup ds => intsD ds
  | _ => none
def keysD : List D → Option (List (List Int))
  | [] => some []
  | d :: ds => match keyD d, keysD ds with
    | some k, some ks => some (k :: ks)
    | _, _ => none
def tupsI (ks : List (List Int)) : List D := ks.map fun k => D.tup (k.map D.int)
def evenK : List (List Int) → Bool
  | [] => true
  | k :: ks => decide (1 ≤ k.length) && ks.all fun j => decide (j.length = k.length)
theorem evenK_of {ks : List (List Int)} (h : evenK ks = true) : ∃ d, 1 ≤ d ∧ ∀ k ∈ ks, k.length = d := by
  cases ks with
  | nil => exact ⟨1, Nat.le_refl _, fun _ h => by cases h⟩
  | cons k ks =>
    unfold evenK at h
    rw [Bool.and_eq_true] at h
    refine ⟨k.length, of_decide_eq_true h.1, fun j hj => ?_⟩
    rcases List.mem_cons.mp hj with rfl | hj
    · rfl
    · exact of_decide_eq_true (List.all_eq_true.mp h.2 j hj)
def sortSD (ds : List D) : M D := match keysD ds with
  | some ks => if ks.length < 64 ∧ evenK ks = true then M.pure (.lst (tupsI (SO.sortS ks))) else M.bad
  | none => M.bad
def gSortS : D → M D
  | .lst ds => sortSD ds
  | .tup ds => sortSD ds
  | _ => M.bad
def gSort : List D → M D
  | [.lst ds] => match keysD ds with
    | some ks => if ks.length < 64 ∧ evenK ks = true then M.pure (.lst (tupsI (SO.sortL ks))) else M.bad
    | none => M.bad
  | _ => M.bad
section
variable {G : Gx} {W : Wd} {H : Hp}
theorem RpA.intsOf : ∀ {ds : List D} {vs : List V} {is : List Int}, RpA G W H vs ds → intsD ds = some is → vs = is.map V.int ∧ ds = is.map D.int
  | [], _, _, .nil, e => by simp [intsD] at e; subst e; exact ⟨rfl, rfl⟩
  | d :: ds, _, is, .cons r t, e => by
    unfold intsD at e
    cases d with
    | int i =>
      cases q : intsD ds with
      | none => rw [q] at e; cases e
      | some js =>
        rw [q] at e
        cases e
        cases r
        obtain ⟨a, b⟩ := RpA.intsOf t q
        exact ⟨by rw [a]; rfl, by rw [b]; rfl⟩
    | _ => cases e
theorem RpA.keysOf : ∀ {ds : List D} {vs : List V} {ks : List (List Int)}, RpA G W H vs ds → keysD ds = some ks → ∃ ps : List (Addr × List Int), vs = ps.map (fun p => V.ref p.1) ∧ ks = ps.map (·.2) ∧ ∀ p ∈ ps, TupAt G W H p.1 (p.2.map V.int)
  | [], _, _, .nil, e => by simp [keysD] at e; subst e; exact ⟨[], rfl, rfl, fun _ h => by cases h⟩
  | d :: ds, _, ks, .cons r t, e => by
    unfold keysD at e
    cases d with
    | tup xs =>
      have e : (match intsD xs, keysD ds with | some k, some ks => some (k :: ks) | _, _ => none) = some ks := e
      cases q1 : intsD xs with
      | none => rw [q1] at e; cases e
      | some is =>
        cases q : keysD ds with
        | none => rw [q1, q] at e; cases e
        | some js =>
          rw [q1, q] at e
          cases e
          obtain ⟨ps, a, b, c⟩ := RpA.keysOf t q
          cases r with
          | @tup p vs _ hp rp =>
            obtain ⟨x, y⟩ := rp.intsOf q1
            subst x
            refine ⟨(p, is) :: ps, by rw [a]; rfl, by rw [b]; rfl, fun z hz => ?_⟩
            rcases List.mem_cons.mp hz with rfl | hz
            · exact hp
            · exact c z hz
    | _ => cases e
theorem rp_ints : ∀ is : List Int, RpA G W H (is.map V.int) (is.map D.int)
  | [] => .nil
  | i :: is => .cons (.int i) (rp_ints is)
theorem rp_tups : ∀ {ps : List (Addr × List Int)}, (∀ p ∈ ps, TupAt G W H p.1 (p.2.map V.int)) → RpA G W H (ps.map fun p => V.ref p.1) (tupsI (ps.map (·.2)))
  | [], _ => .nil
  | p :: ps, h => .cons (.tup (h p List.mem_cons_self) (rp_ints _)) (rp_tups fun q hq => h q (List.mem_cons_of_mem _ hq))
end
theorem sq_same {K : PySem.W.Frag} {H H' : Hp} {a : Addr} {xs : List V} (h : SqT K H a xs) (s : Same H H') : SqT K H' a xs := by
  rcases h with h | h
  · rcases h with h | ⟨o, h⟩
    · exact .inl (.inl (s _ _ h))
    · exact .inl (.inr ⟨o, s _ _ h⟩)
  · exact .inr h
section
variable {X : Cx} {cl : Cls_} {E : WX} {e : Expr} {es : List Expr} {fe : Env → M D} {fs : Env → M (List D)} {p p2 p3 pos : Pos}
theorem de_sortSet (hc : X.calm = true) (hu : X.A.units + 64 < cLine) (m1 : X.mg "sorted" = none) (m2 : X.mg "set" = none) (he : DE X cl E e fe) (g1 : Gl X "sorted" := by rfl) (g2 : Gl X "set" := by rfl)
    (a1 : starEach [.Call (.Name "set" p2) [e] [] p3] X.env = (false, eval (.Call (.Name "set" p2) [e] [] p3) X.env) :: starEach [] X.env := by rfl) (b1 : (backTo pos (starEach ([] : List Expr) X.env)).any (·.1) = false := by rfl)
    (a2 : starEach [e] X.env = (false, eval e X.env) :: starEach [] X.env := by rfl) (b2 : (backTo p3 (starEach ([] : List Expr) X.env)).any (·.1) = false := by rfl) : DE X cl E (.Call (.Name "sorted" p) [.Call (.Name "set" p2) [e] [] p3] [] pos) (c1 gSortS fe) := by
  have inner := pe_callTy (x := "set") (p := p2) (pos := p3) (cr_setA hc hu) g2 m2 (by decide +kernel) (pa_cons he pa_nil a2) (by decide) (by decide) a2 b2
  refine pe_imp (pe_callB (cr_sortS hc) g1 m1 (by decide +kernel) (pa_cons inner pa_nil a1) (by decide) (by decide) a1 b1) fun σ H Q h => ?_
  refine tE_bind h fun W0 H0 W1 H1 S1 ρ own x dx ev rx h1 => ?_
  have main : ∀ (l : Addr) (vs : List V) (ds : List D), x = .ref l → (SqL X.K H1 l vs ∨ SqT X.K H1 l vs) → RpA ⟨X.K, cl⟩ W1 H1 vs ds → Po ⟨X.K, cl⟩ E σ W1 H1 (sortSD ds S1) (RV ⟨X.K, cl⟩ Q) →
      rSetA X.K X.prog X.w [x] H1 (fun y H2 => rSortS X.K X.prog X.w [y] H2 Q) := by
    intro l vs ds ex hl ra h1
    unfold sortSD at h1
    cases q : keysD ds with
    | none => rw [q] at h1; exact h1.elim
    | some ks =>
      rw [q] at h1
      obtain ⟨⟨few, ek⟩, h1⟩ := po_if h1
      obtain ⟨d, d1, dl⟩ := evenK_of ek
      obtain ⟨ps, rfl, rfl, hp⟩ := ra.keysOf q
      refine ⟨l, ps, by rw [ex], hl, fun z hz => (hp z hz).sq, by simpa using few, fun a L ha sub all => ?_⟩
      have sm : Same H1 (upd H1 a (SetTO X.prog X.w a L)) := Same.new ha
      refine ⟨a, L, d, rfl, upd_same, fun z hz => sq_same (hp z (sub z hz)).sq sm, d1, fun z hz => dl _ (List.mem_map.mpr ⟨z, sub z hz, rfl⟩), fun M p pm nd od fr => ?_⟩
      have w2 := ev.wk.same sm
      have s2 := ev.st.same sm
      have h2 := Po.step ev.wk (Le.same sm) h1
      have eM : M.map (·.2) = SO.sortS (ps.map (·.2)) := by
        refine SO.set_sorted nd (List.pairwise_map.mpr od) fun z => ⟨fun hz => ?_, fun hz => ?_⟩
        · obtain ⟨u, hu, rfl⟩ := List.mem_map.mp hz
          exact List.mem_map.mpr ⟨u, sub u (pm.mem_iff.mp hu), rfl⟩
        · obtain ⟨u, hu, rfl⟩ := List.mem_map.mp hz
          exact (pm.map (·.2)).mem_iff.mpr (all u hu)
      rw [← eM] at h2
      refine Po.new w2 s2 h2 fr (Rp.newLst w2 fr (rp_tups fun z hz => ?_))
      have := hp z (sub z (pm.mem_iff.mp hz))
      rcases this with ⟨r, nb⟩ | r
      · refine .inl ⟨?_, nb⟩
        rcases r with r | ⟨o, r⟩
        · exact .inl (sm _ _ r)
        · exact .inr ⟨o, sm _ _ r⟩
      · exact .inr r
  cases dx with
  | lst ds =>
    cases rx with
    | @lst l vs _ hl _ ra => exact main l vs ds rfl (.inl (.inl (.inl hl))) ra h1
  | tup ds =>
    cases rx with
    | @tup l vs _ hl ra => exact main l vs ds rfl (.inr hl.sq) ra h1
  | _ => exact h1.elim
theorem cd_sort {K : PySem.W.Frag} : CallD K cl (rSortL K) gSort := by
  intro E σ W H S vs ds Q w s r h
  unfold gSort at h
  match ds, r, h with
  | [.lst xs], .cons (.lst (a := l) (vs := us) hl _ ra) .nil, h =>
    dsimp only at h
    cases q : keysD xs with
    | none => rw [q] at h; exact h.elim
    | some ks =>
      rw [q] at h
      obtain ⟨⟨few, ek⟩, h1⟩ := po_if h
      obtain ⟨d, d1, dl⟩ := evenK_of ek
      obtain ⟨ps, rfl, rfl, hp⟩ := ra.keysOf q
      refine ⟨l, ps, d, rfl, .inl (.inl hl), fun z hz => (hp z hz).sq, by simpa using few, d1, fun z hz => dl _ (List.mem_map.mpr ⟨z, hz, rfl⟩), fun M p sub pm od fr => ?_⟩
      have eM : M.map (·.2) = SO.sortL (ps.map (·.2)) := SO.wk_uniq (List.pairwise_map.mpr od) (SO.wk_sortL _) (pm.trans (SO.perm_sortL _).symm)
      rw [← eM] at h1
      exact Po.new w s h1 fr (Rp.newLst w fr (rp_tups fun z hz => hp z (sub z hz)))
end
end DN
/-! DO4: x(lambda: e), x a def: try: return a() / except X: return None. -/
namespace DN
open PySem PySem.Spec PyProof.Rows L2 LamX
def cMetN (c0 : Str) (fe : Env → M D) : Env → M D := fun ρ S => match fe ρ S with
  | .ok d S' => .ok d S'
  | .exc c fs S' => if c = c0 ∧ fs.isEmpty = true then .ok .non S' else .bad
  | .bad => .bad
def TTnon (CS : Addr) : (XK → Hp → VK → Prop) → Hp → VK → Prop := fun tl H Q => tl (fun cls _ H' => cls = .ref CS ∧ Q .non H') H Q
section
variable {X : Cx}
theorem non_gives {Ng : List Str} {x a e q : Str} {sg : Scope} {g CS : Addr} {cdg : Value} {j : Nat} {p1 p2 p3 p4 p5 p6 p7 p8 : Pos} (hge : sg.names.lookup e = some .globalImplicit) (hme : X.mg e = some (.ref CS)) (hde : (e == ("__debug__" : Str)) = false) (h0 : ∀ f : Addr, (L2.start Ng [V.ref f])[0]? = some (some (V.ref f)))
    (one : PySem.W.exmOne X.K (.ref CS) (.ref CS) = some true) :
    GivesTo X Ng x sg g cdg [.Try [.Return (some (.Call (.Name a p1) [] [] p2)) p3] [.ExceptHandler (some (.Name e p4)) none [.Return (some (.Constant .none j p5)) p6] p7] [] [] p8] a q (TTnon CS) := by
  intro f c' s H Q tl act hc h
  have hgl : Gl (cxOf C8.CX0 X.prog X.w X.K X.mg X.base Ng x sg g cdg X.A X.stack s H C8.E0).nox e := hge
  refine ⟨_, pss_one (ps_try_only (X := (cxOf C8.CX0 X.prog X.w X.K X.mg X.base Ng x sg g cdg X.A X.stack s H C8.E0).nox) (c := .ref CS)
      (tb := fun W D σ H => ∃ Ech : XK, (∀ cls d σ' H', Ech cls d H' → W cls d σ' H') ∧ σ[0]? = some (some (.ref f)) ∧ H c' = some (CodeO c' q) ∧ tl Ech H D.rt)
      rfl rfl ⟨hgl, hde, .inl hme⟩ LamX.takes0 (fun W pn xe tk _ => ?_) (fun a oe cls d pn _ _ => pss_one (ps_ret pe_non))), ?_⟩
  · refine ⟨fun pins s' σ H' D I h' => ?_⟩
    obtain ⟨Ech, hW, h1, h2, h3⟩ := h'
    have hp := act W pn xe Ech p1 p2 tk hW
    have hq := pss_one (ps_ret (pos := p3) hp)
    exact hq.run pins s' σ H' D I ⟨h1, h2, h3⟩
  · exact ⟨fun cls _ H' => cls = .ref CS ∧ Q .non H', fun cls d σ' H' ⟨e1, e2⟩ => ⟨true, by rw [e1]; exact one, fun _ a _ => e2, fun z => (nomatch z)⟩, h0 f, hc, h⟩
end
/-- the def that calls what it got, as it stands in the module -/
structure MetN (X : Cx) (x : Str) (CS : Addr) : Prop where
  ex : ∃ (a : Str) (g : Addr) (pg : Arguments) (bg : List Stmt) (sg : Scope) (dV kV doc pm cdv ct oc : Value) (an od : Option Addr) (osl : Array (Option Value)) (Ng : List Str),
    X.mg x = some (.ref g) ∧ PySem.W.keepIn X.K (.ref g) = true ∧ X.K.lookup g = some ⟨oc, od, .func (PySem.W.fnOf x x pg bg sg dV kV doc pm an cdv ct), osl⟩ ∧ PySem.W.codeIn X.K cdv x = true ∧
    L2.Binds X.K (PySem.W.fnOf x x pg bg sg dV kV doc pm an cdv ct) [a] [] ∧ FnScope Ng [a] sg ∧ Ng[0]? = some a ∧ Vis sg a ∧ (a == ("__debug__" : Str)) = false ∧ (a == ("__classdict__" : Str)) = false ∧ (∀ q, LamX.GivesTo X Ng x sg g cdv bg a q (TTnon CS))
theorem de_metN {X : Cx} {cl : Cls_} {E : WX} {x c0 : Str} {CS c P : Addr} {k : Nat} {params : Arguments} {body : Expr} {scope : Scope} {p lpos pos : Pos} {fe : Env → M D} (D0 : MetN X x CS) (hcs : cl.at_ c0 = some CS) (TB : LamX.TabB X.base X.mg c P) (hcode : X.env.code = .ref c)
    (hmT : (P, X.env.qual ++ "<lambda>") ∈ cl.T) (hu : ∀ p ∈ cl.T, p.1 = P → p.2 = X.env.qual ++ "<lambda>") (hr : Room (k + 2) X.A) (L : LamX.LamS X.env.scope scope)
    (hbody : ∀ (A : Around) (outer : List PySem.Env) (s : Shared) (H : Hp) (E : XK) (f c' : Addr), Room k (A.deeper (LamX.lamEnv X scope s.heap.objs.size f c')) → DE (LamX.lamCx X A outer s H E scope f c') cl (fun c d _ H => E c d H) body fe)
    (hdef : defaultsOf params X.env = ([], []) := by rfl) (hbind : ∀ (q : Str) (cl : List (Str × Addr)) (pm cv ctv : Value), bindArgs (PySem.W.kla_fn "<lambda>" q params body scope cl pm cv ctv) ⟨[], []⟩ = pure [] := by intros; rfl)
    (hg : Gl X x := by rfl) (hdb : (x == ("__debug__" : Str)) = false := by decide) :
    DE X cl E (.Call (.Name x p) [.Lambda params body scope lpos] [] pos) (cMetN c0 fe) := by
  obtain ⟨a, g, pg, bg, sg, dV, kV, doc, pm, cdv, ct, oc, an, od, osl, Ng, m1, m2, m3, m4, m5, m6, m7, m8, m9, m10, m11⟩ := D0.ex
  refine pe_imp (LamX.pe_lamcall (T := cl.T) (t := fun E => tE ⟨X.K, cl⟩ (fun c d _ H => E c d H) fe) hg m1 m2 m3 m4 m5 m6 m7 m8 (m11 _) TB hcode hmT hu hr L hdef hbind hbody hdb m9 m10) fun σ H Q ⟨W0, H0, W, S, ρ, own, ev, h⟩ => ?_
  refine ⟨ev.st.tb, fun H1 x1 t1 => ?_⟩
  obtain ⟨le, ev1⟩ := ev.lam x1 t1
  have h := Po.step ev.wk le h
  refine ⟨W0, H0, W, S, ρ, own, ev1, ?_⟩
  have h : Po ⟨X.K, cl⟩ E σ W H1 (cMetN c0 fe ρ S) (RV ⟨X.K, cl⟩ Q) := h
  unfold cMetN at h
  cases q : fe ρ S with
  | bad => rw [q] at h; exact h.elim
  | ok d S' =>
    rw [q] at h
    exact h
  | exc cc fs S' =>
    rw [q] at h
    by_cases e : cc = c0 ∧ fs.isEmpty = true
    · have h3 : Po ⟨X.K, cl⟩ E σ W H1 (if cc = c0 ∧ fs.isEmpty = true then Res.ok D.non S' else Res.bad) (RV ⟨X.K, cl⟩ Q) := h
      rw [if_pos e] at h3
      clear h
      obtain ⟨e, ef⟩ := e
      subst e
      intro W' H' cls dd l w s ⟨C, e1, e2, e3⟩
      have e1 : cl.at_ cc = some C := e1
      rw [hcs] at e1
      cases e1
      exact ⟨e2, h3 W' H' l w s _ .non⟩
    · have h : Po ⟨X.K, cl⟩ E σ W H1 (if cc = c0 ∧ fs.isEmpty = true then Res.ok D.non S' else Res.bad) (RV ⟨X.K, cl⟩ Q) := h
      rw [if_neg e] at h
      exact h.elim
end DN
/-! DO2: list comprehensions of two clauses. -/
namespace DN
open PySem PySem.Spec PyProof.Rows L2
/-- a loop that appends to the list at p; (σo, ρo): what stands behind it -/
theorem loop2 {G : Gx} {b : Bd} {t : Env → M Bool} {f : Env → M D} {vs ws : List Nat} {J : It} {ds ys ad0 : List D} {WO W0 W1 : Wd} {HO H0 H1 : Hp} {σ σo : L2.St} {ρ ρo : Env} {own1 owno : Nat → Option Addr} {p : Addr} {S1 S2 : Store} {av0 : List V} {Fin : Hp → Prop}
    (hw : ∀ i ∈ ws, i ∈ vs) (hJ : Wk G J ds W1 H1) (ev1 : Ev G W0 H0 W1 H1 S1 (wipe σ vs) (wipeE ρ vs) own1) (evo : Ev G W0 H0 W1 H1 S1 σo ρo owno) (nD : ∀ i, own1 i ≠ some p) (nDo : ∀ i, owno i ≠ some p) (z0 : Nw H0 p)
    (wO : WOk WO HO) (hp : HO p = none) (lO : Le WO HO W1 H1) (Bp0 : W1.B p) (np0 : ∀ n, W1.phi n ≠ some p) (hL0 : H1 p = some (.lst av0)) (ra0 : RpA G W1 H1 av0 ad0)
    (qr : compL b t f (wipeE ρ vs) ds S1 = .ok ys S2) (hz : (ad0 ++ ys).length ≤ 16777216)
    (fin : ∀ Wc H' av, Ev G W0 H0 Wc H' S2 σo ρo owno → Le WO HO Wc H' → Wc.B p → (∀ n, Wc.phi n ≠ some p) → H' p = some (.lst av) → RpA G Wc H' av (ad0 ++ ys) → Fin H') :
    ∃ Wv : Nat → Nat → Hp → Prop, (∃ m, Wv 0 m H1) ∧ ∀ i m H, Wv i m H → (J.stop i H ∧ Fin H) ∨ (J.go i H ∧ ∃ Nx : Hp → Prop, (∀ H', Nx H' → ∃ m', m' < m ∧ Wv (i + 1) m' H') ∧ ∀ x H', J.yld i H x H' →
      tG G b ws x (wipe σ vs) H' fun σ2 H2 => wipe σ2 vs = wipe σ vs ∧ tB_ G E0_ t σ2 H2 fun k H3 => if k = true then tE G E0_ f σ2 H3 fun y H4 => ∃ acc, H4 p = some (.lst acc) ∧ acc.length < sizeLine ∧ Nx (upd H4 p (.lst (acc ++ [y]))) else Nx H3) := by
  refine ⟨fun i m H' => m = ds.length - i ∧ i ≤ ds.length ∧ ∃ (Wc : Wd) (Sc : Store) (av : List V) (ad zs : List D), Ev G W0 H0 Wc H' Sc (wipe σ vs) (wipeE ρ vs) own1 ∧ Ev G W0 H0 Wc H' Sc σo ρo owno ∧ Lw W1 H1 Wc H' ∧ Le WO HO Wc H' ∧ Wc.B p ∧ (∀ n, Wc.phi n ≠ some p) ∧
      H' p = some (.lst av) ∧ RpA G Wc H' av ad ∧ compL b t f (wipeE ρ vs) (ds.drop i) Sc = .ok zs S2 ∧ ad0 ++ ys = ad ++ zs, ⟨_, rfl, Nat.zero_le _, W1, S1, av0, ad0, ys, ev1, evo, Lw.refl, lO, Bp0, np0, hL0, ra0, qr, rfl⟩, ?_⟩
  rintro i m H' ⟨rfl, hi, Wc, Sc, av, ad, zs, ec, eo, lc, lcO, Bp, np, hL, ra, hr, hy⟩
  by_cases hlt : i < ds.length
  · obtain ⟨d, hd⟩ : ∃ d, ds[i]? = some d := ⟨ds[i], by simp [hlt]⟩
    have hdr : ds.drop i = d :: ds.drop (i + 1) := by
      rw [List.drop_eq_getElem_cons hlt]
      have : ds[i] = d := by simpa [hlt] using hd
      rw [this]
    rw [hdr] at hr
    obtain ⟨ρ', k, Sk, hb, ht, hk1, hk0⟩ := compL_ok hr
    obtain ⟨go, yl⟩ := hJ.go Wc H' lc ec.wk i d hd
    refine .inr ⟨go, _, fun H2 h2 => ⟨ds.length - (i + 1), by omega, h2⟩, fun x H2 y2 => ?_⟩
    obtain ⟨sm, rx⟩ := yl x H2 y2
    have e2 := ec.same sm
    have eo2 := eo.same sm
    have lw2 : Lw W1 H1 Wc H2 := lc.trans (Lw.same sm)
    have lc2 : Le WO HO Wc H2 := lcO.trans (Le.same sm) wO e2.wk
    refine ⟨W0, H0, Wc, Sc, _, own1, d, ρ', e2, rx, hb, fun σ3 own3 o3 e3 => ?_⟩
    refine ⟨?_, W0, H0, Wc, Sc, ρ', own3, e3, ?_⟩
    · rw [wipe_same o3 hw, wipe_same (ws := vs) ⟨wipe_length σ vs, fun j hj => wipe_out hj⟩ fun _ h => h]
    · rw [ht]
      intro W3 H3 l3 w3 s3
      have e4 := e3.mono l3 w3 s3
      cases k with
      | true =>
        obtain ⟨y, Sy, zs', hf, hz2, hys⟩ := hk1 rfl
        refine iteT ⟨W0, H0, W3, Sk, ρ', own3, e4, ?_⟩
        rw [hf]
        intro W4 H4 l4 w4 s4 v rv
        have l34 := l3.trans l4 e3.wk w4
        have e5 := e2.mono l34 w4 s4
        have eo5 := eo2.mono l34 w4 s4
        have hL4 : H4 p = some (.lst av) := by
          rcases l34.kp p _ (sm _ _ hL) with ⟨n, z⟩ | z
          · exact absurd z (np n)
          · exact z
        have ra4 := (ra.mono (Lw.same sm)).mono (l34.lw e2.wk)
        have np4 : ∀ n, W4.phi n ≠ some p := fun n z => by
          rcases l34.ps n p z with y | y
          · exact np n y
          · exact y.no (sm _ _ hL)
        have Bp4 : W4.B p := l34.Bm p Bp
        have hlen : ad.length < 16777216 := by
          have h2 := congrArg List.length hy
          rw [hys] at h2
          simp only [List.length_append, List.length_cons] at h2 hz
          omega
        refine ⟨av, hL4, by rw [ra.length, sizeLine_eq]; omega, ?_⟩
        have lwp : Lw W4 H4 W4 (upd H4 p (.lst (av ++ [v]))) := ⟨fun _ _ h => h, fun _ h => .inl h, fun c u h _ nb => by rw [upd_ne (fun z => nb (by rw [z]; exact Bp4))]; exact h⟩
        have lc4 := lc2.trans l34 wO w4
        refine ⟨rfl, hlt, W4, Sy, av ++ [v], ad ++ [y], zs', e5.poke hL4 Bp4 z0 np4 nD, eo5.poke hL4 Bp4 z0 np4 nDo, (lw2.trans (l34.lw e2.wk)).trans lwp, ⟨lc4.ph, lc4.ps, lc4.Bm, lc4.Bn, fun c u h tu => ?_⟩, Bp4, np4, upd_same, (ra4.mono lwp).app (.cons (rv.mono lwp) .nil), hz2, ?_⟩
        · rcases lc4.kp c u h tu with z | z
          · exact .inl z
          · exact .inr (by rw [upd_ne (fun q => by rw [q, hp] at h; cases h)]; exact z)
        · rw [hy, hys, List.append_assoc]; rfl
      | false =>
        refine iteF ⟨rfl, hlt, W3, Sk, av, ad, zs, e2.mono l3 w3 s3, eo2.mono l3 w3 s3, lw2.trans (l3.lw e2.wk), lc2.trans l3 wO w3, l3.Bm p Bp, fun n z => ?_, ?_, (ra.mono (Lw.same sm)).mono (l3.lw e2.wk), hk0 rfl, hy⟩
        · rcases l3.ps n p z with y | y
          · exact np n y
          · exact y.no (sm _ _ hL)
        · rcases l3.kp p _ (sm _ _ hL) with ⟨n, z⟩ | z
          · exact absurd z (np n)
          · exact z
  · have e : i = ds.length := by omega
    subst e
    rw [List.drop_length] at hr
    have hr : Res.ok ([] : List D) Sc = Res.ok zs S2 := hr
    injection hr with hr1 hr2
    subst hr1 hr2
    rw [List.append_nil] at hy
    refine .inl ⟨hJ.stop Wc H' lc _ (Nat.le_refl _), fin Wc H' av eo lcO Bp np hL (by rw [hy]; exact ra)⟩
def noOwn (ρ : Env) : Bool := ρ.all fun s => match s with
  | .own _ => false
  | _ => true
theorem noOwn_at {ρ : Env} (h : noOwn ρ = true) {i : Nat} {xs : List D} (q : ρ[i]? = some (.own xs)) : False := by
  have := List.all_eq_true.mp h _ (List.mem_of_getElem? q)
  cases this
theorem noOwn_wipe {ρ : Env} (h : noOwn ρ = true) : ∀ vs : List Nat, noOwn (wipeE ρ vs) = true
  | [] => h
  | i :: is => by
    have ih := noOwn_wipe h is
    unfold noOwn at *
    rw [List.all_eq_true] at *
    intro x hx
    show _ = true
    rcases List.mem_or_eq_of_mem_set hx with q | q
    · exact ih x q
    · rw [q]
theorem Ev.none {G : Gx} {W0 W : Wd} {H0 H : Hp} {S : Store} {σ : L2.St} {ρ : Env} {own : Nat → Option Addr} (e : Ev G W0 H0 W H S σ ρ own) (h : noOwn ρ = true) : Ev G W0 H0 W H S σ ρ (fun _ => Option.none) :=
  ⟨e.w0, e.wk, e.le, e.st, e.len, e.sl, fun i xs q => (noOwn_at h q).elim, fun _ _ z => (nomatch z), fun _ _ _ z => (nomatch z), e.sa⟩
def compL2 (b : Bd) (t : Env → M Bool) (fi1 : Env → M (List D)) (b1 : Bd) (t1 : Env → M Bool) (f : Env → M D) (vs1 : List Nat) (ρ : Env) : List D → M (List D)
  | [] => M.pure []
  | d :: ds => match b d ρ with
    | Option.none => M.bad
    | some ρ' => if noOwn ρ' = true then (do
      let k ← t ρ'
      if k then (do
        let es ← fi1 ρ'
        let ys ← compL b1 t1 f (wipeE ρ' vs1) es
        let zs ← compL2 b t fi1 b1 t1 f vs1 ρ ds
        if ys.length + zs.length ≤ 16777216 then M.pure (ys ++ zs) else M.bad)
      else compL2 b t fi1 b1 t1 f vs1 ρ ds) else M.bad
def cComp2 (fi : Env → M (List D)) (b : Bd) (t : Env → M Bool) (fi1 : Env → M (List D)) (b1 : Bd) (t1 : Env → M Bool) (f : Env → M D) (vs vs1 : List Nat) : Env → M D := fun ρ => do
  let ds ← fi ρ
  let ys ← noX (compL2 b t fi1 b1 t1 f vs1 (wipeE ρ vs) ds)
  M.pure (.lst ys)
theorem compL2_ok {b b1 : Bd} {t t1 : Env → M Bool} {fi1 : Env → M (List D)} {f : Env → M D} {vs1 : List Nat} {ρ : Env} {d : D} {ds : List D} {S S2 : Store} {ys : List D} (h : compL2 b t fi1 b1 t1 f vs1 ρ (d :: ds) S = .ok ys S2) :
    ∃ ρ' k Sk, b d ρ = some ρ' ∧ noOwn ρ' = true ∧ t ρ' S = .ok k Sk ∧ (k = true → ∃ es Se y1 Sy zs, fi1 ρ' Sk = .ok es Se ∧ compL b1 t1 f (wipeE ρ' vs1) es Se = .ok y1 Sy ∧ compL2 b t fi1 b1 t1 f vs1 ρ ds Sy = .ok zs S2 ∧ ys = y1 ++ zs ∧ ys.length ≤ 16777216) ∧ (k = false → compL2 b t fi1 b1 t1 f vs1 ρ ds Sk = .ok ys S2) := by
  unfold compL2 at h
  cases q : b d ρ with
  | none => rw [q] at h; cases h
  | some ρ' =>
    rw [q] at h
    dsimp only at h
    by_cases qo : noOwn ρ' = true
    · rw [if_pos qo, bind_run] at h
      cases q2 : t ρ' S with
      | bad => rw [q2] at h; cases h
      | exc c fs S' => rw [q2] at h; cases h
      | ok k Sk =>
        rw [q2] at h
        dsimp only at h
        refine ⟨ρ', k, Sk, rfl, qo, q2, fun e => ?_, fun e => ?_⟩
        · subst e
          rw [if_pos rfl, bind_run] at h
          cases q3 : fi1 ρ' Sk with
          | bad => rw [q3] at h; cases h
          | exc c fs S' => rw [q3] at h; cases h
          | ok es Se =>
            rw [q3] at h
            dsimp only at h
            rw [bind_run] at h
            cases q4 : compL b1 t1 f (wipeE ρ' vs1) es Se with
            | bad => rw [q4] at h; cases h
            | exc c fs S' => rw [q4] at h; cases h
            | ok y1 Sy =>
              rw [q4] at h
              dsimp only at h
              rw [bind_run] at h
              cases q5 : compL2 b t fi1 b1 t1 f vs1 ρ ds Sy with
              | bad => rw [q5] at h; cases h
              | exc c fs S' => rw [q5] at h; cases h
              | ok zs Sz =>
                rw [q5] at h
                dsimp only at h
                by_cases hz : y1.length + zs.length ≤ 16777216
                · rw [if_pos hz] at h
                  have h : Res.ok (y1 ++ zs) Sz = Res.ok ys S2 := h
                  injection h with h1 h2
                  subst h1 h2
                  exact ⟨es, Se, y1, Sy, zs, rfl, q4, q5, rfl, by rw [List.length_append]; exact hz⟩
                · rw [if_neg hz] at h
                  cases h
        · subst e
          rw [if_neg Bool.false_ne_true] at h
          exact h
    · rw [if_neg qo] at h
      cases h
theorem compL2_len {b b1 : Bd} {t t1 : Env → M Bool} {fi1 : Env → M (List D)} {f : Env → M D} {vs1 : List Nat} {ρ : Env} : ∀ {ds : List D} {S S2 : Store} {ys : List D}, compL2 b t fi1 b1 t1 f vs1 ρ ds S = .ok ys S2 → ys.length ≤ 16777216
  | [], S, S2, ys, h => by
    have h : Res.ok ([] : List D) S = Res.ok ys S2 := h
    injection h with h1 _
    subst h1
    exact Nat.zero_le _
  | d :: ds, _, _, _, h => by
    obtain ⟨ρ', k, Sk, _, _, _, h1, h0⟩ := compL2_ok h
    cases k with
    | true =>
      obtain ⟨_, _, _, _, _, _, _, _, _, hz⟩ := h1 rfl
      exact hz
    | false => exact compL2_len (h0 rfl)
theorem tLc2_of {G : Gx} {E : WX} {fi fi1 : Env → M (List D)} {b b1 : Bd} {t t1 : Env → M Bool} {f : Env → M D} {vs vs1 ws ws1 : List Nat} {σ : L2.St} {H : Hp} {Q : VK} (hw : ∀ i ∈ ws, i ∈ vs) (hw1 : ∀ i ∈ ws1, i ∈ vs1) (h : tE G E (cComp2 fi b t fi1 b1 t1 f vs vs1) σ H Q) :
    tLc2 (tI G E fi) (tG G b ws) (tB_ G E0_ t) (tI G E0_ fi1) (tG G b1 ws1) (tB_ G E0_ t1) (tE G E0_ f) vs vs1 σ H Q := by
  obtain ⟨W0, H0, W, S, ρ, own, ev, h⟩ := h
  refine ⟨W0, H0, W, S, ρ, own, ev, (Po.bind ev.wk h).imp fun ds S1 W1 H1 l1 w1 s1 h1 J hJ p hp => ?_⟩
  have h1 := Po.bind w1 h1
  unfold noX at h1
  obtain ⟨own1, ev1⟩ := (ev.mono l1 w1 s1).wiped vs
  have nD : ∀ i, own1 i ≠ some p := fun i q => by
    obtain ⟨z, _⟩ := ev1.oB i p q
    exact w1.free hp z
  have z0 : Nw H0 p := fun o q t => by
    rcases ev1.le.kp p o q t with ⟨n, y⟩ | y
    · exact absurd (w1.rg n p (ev1.le.ph n p y)) (w1.free hp)
    · rw [hp] at y; cases y
  cases qr : compL2 b t fi1 b1 t1 f vs1 (wipeE ρ vs) ds S1 with
  | bad => rw [qr] at h1; exact h1.elim
  | exc c fs S' => rw [qr] at h1; exact h1.elim
  | ok ys S2 =>
    rw [qr] at h1
    have hz := compL2_len qr
    have fin : ∀ W3 H3, Le W1 H1 W3 H3 → WOk W3 H3 → StOk G W3 H3 S2 → ∀ v, Rp G W3 H3 v (.lst ys) → Q v H3 := fun W3 H3 l w s v r => Po.now w s (h1 W3 H3 l w s) v r
    refine ⟨fun i m H' => m = ds.length - i ∧ i ≤ ds.length ∧ ∃ (Wc : Wd) (Sc : Store) (av : List V) (ad zs : List D), Ev G W0 H0 Wc H' Sc (wipe σ vs) (wipeE ρ vs) own1 ∧ Le W1 H1 Wc H' ∧ Wc.B p ∧ (∀ n, Wc.phi n ≠ some p) ∧
      H' p = some (.lst av) ∧ RpA G Wc H' av ad ∧ compL2 b t fi1 b1 t1 f vs1 (wipeE ρ vs) (ds.drop i) Sc = .ok zs S2 ∧ ys = ad ++ zs, ?_, ?_⟩
    · exact ⟨ds.length, by simp, Nat.zero_le _, W1.add p, S1, [], [], ys, ev1.mono (le_add hp) (ok_add w1 hp) (st_add w1 s1 hp), le_add hp, .inr rfl, fun n q => w1.free hp (w1.rg n p q), upd_same, .nil, qr, rfl⟩
    · rintro i m H' ⟨rfl, hi, Wc, Sc, av, ad, zs, ec, lc, Bp, np, hL, ra, hr, hy⟩
      by_cases hlt : i < ds.length
      · obtain ⟨d, hd⟩ : ∃ d, ds[i]? = some d := ⟨ds[i], by simp [hlt]⟩
        have hdr : ds.drop i = d :: ds.drop (i + 1) := by
          rw [List.drop_eq_getElem_cons hlt]
          have : ds[i] = d := by simpa [hlt] using hd
          rw [this]
        rw [hdr] at hr
        obtain ⟨ρ', k, Sk, hb, ho, ht, hk1, hk0⟩ := compL2_ok hr
        obtain ⟨go, yl⟩ := hJ.go Wc H' (lc.lw w1) ec.wk i d hd
        refine .inr ⟨go, _, fun H2 h2 => ⟨ds.length - (i + 1), by omega, h2⟩, fun x H2 y2 => ?_⟩
        obtain ⟨sm, rx⟩ := yl x H2 y2
        have e2 := ec.same sm
        have lc2 : Le W1 H1 Wc H2 := lc.trans (Le.same sm) w1 e2.wk
        refine ⟨W0, H0, Wc, Sc, _, own1, d, ρ', e2, rx, hb, fun σ3 own3 o3 e3 => ?_⟩
        refine ⟨?_, W0, H0, Wc, Sc, ρ', own3, e3, ?_⟩
        · rw [wipe_same o3 hw, wipe_same (ws := vs) ⟨wipe_length σ vs, fun j hj => wipe_out hj⟩ fun _ h => h]
        · rw [ht]
          intro W3 H3 l3 w3 s3
          have e4 := e3.mono l3 w3 s3
          cases k with
          | true =>
            obtain ⟨es, Se, y1, Sy, zs', hf, hz1, hz2, hys, _⟩ := hk1 rfl
            refine iteT ⟨W0, H0, W3, Sk, ρ', own3, e4, ?_⟩
            rw [hf]
            intro W4 H4 l4 w4 s4 J1 hJ1
            have l34 := l3.trans l4 e3.wk w4
            have e5 := e2.mono l34 w4 s4
            have hL4 : H4 p = some (.lst av) := by
              rcases l34.kp p _ (sm _ _ hL) with ⟨n, z⟩ | z
              · exact absurd z (np n)
              · exact z
            have ra4 := (ra.mono (Lw.same sm)).mono (l34.lw e2.wk)
            have np4 : ∀ n, W4.phi n ≠ some p := fun n z => by
              rcases l34.ps n p z with y | y
              · exact np n y
              · exact y.no (sm _ _ hL)
            have Bp4 : W4.B p := l34.Bm p Bp
            obtain ⟨own4, e7⟩ := ((e4.mono l4 w4 s4).none ho).wiped vs1
            have e8 := e7.none (noOwn_wipe ho vs1)
            have hlen : (ad ++ y1).length ≤ 16777216 := by
              have h2 := congrArg List.length hy
              rw [hys] at h2
              simp only [List.length_append] at h2 ⊢
              omega
            exact loop2 hw1 hJ1 e8 e5 (fun i z => (nomatch z)) nD z0 w1 hp (lc2.trans l34 w1 w4) Bp4 np4 hL4 ra4 hz1 hlen fun Wd' H' av' ev' le' B' np' hL' ra' =>
              ⟨rfl, hlt, Wd', Sy, av', ad ++ y1, zs', ev', le', B', np', hL', ra', hz2, by rw [hy, hys, List.append_assoc]⟩
          | false =>
            refine iteF ⟨rfl, hlt, W3, Sk, av, ad, zs, e2.mono l3 w3 s3, lc2.trans l3 w1 w3, l3.Bm p Bp, fun n z => ?_, ?_, (ra.mono (Lw.same sm)).mono (l3.lw e2.wk), hk0 rfl, hy⟩
            · rcases l3.ps n p z with y | y
              · exact np n y
              · exact y.no (sm _ _ hL)
            · rcases l3.kp p _ (sm _ _ hL) with ⟨n, z⟩ | z
              · exact absurd z (np n)
              · exact z
      · have e : i = ds.length := by omega
        subst e
        rw [List.drop_length] at hr
        have hr : Res.ok ([] : List D) Sc = Res.ok zs S2 := hr
        injection hr with hr1 hr2
        subst hr1 hr2
        rw [List.append_nil] at hy
        subst hy
        refine .inl ⟨hJ.stop Wc H' (lc.lw w1) _ (Nat.le_refl _), ?_⟩
        have lwd : Lw Wc H' (Wc.del p) H' := ⟨fun _ _ h => h, fun _ h => .inl h.1, fun _ _ h _ _ => h⟩
        refine fin (Wc.del p) H' ⟨lc.ph, lc.ps, fun a h => ⟨lc.Bm a h, fun z => w1.free hp (by rw [← z]; exact h)⟩, fun a h => lc.Bn a h.1, lc.kp'⟩ ⟨fun a h => ec.wk.tr a h.1, fun n a h => ⟨ec.wk.rg n a h, fun z => np n (by rw [← z]; exact h)⟩, ec.wk.ij⟩
          ⟨fun n c h => let ⟨a, h1, h2⟩ := ec.st.at_ n c h; ⟨a, h1, h2.same lwd fun _ q => q⟩, ec.st.top, ec.st.tb⟩ _ (.lst hL (fun z => z.2 rfl) (ra.mono lwd))
section
variable {X : Cx} {cl : Cls_} {E : WX} {fi fi1 : Env → M (List D)} {b b1 : Bd} {t t1 : Env → M Bool} {f : Env → M D} {ws ws1 : List Nat}
theorem de_lc2 {elt tg iter tg1 iter1 : Expr} {ifs ifs1 : List Expr} {scope : Scope} (own : List (Str × Nat)) (vs1 : List Nat) {pos : Pos} (hc : X.calm = true) (hN : X.N.Nodup) (hi : DI X cl E tg iter fi) (ok : BlkOk X.N X.env.scope scope own)
    (hg : ∀ (s : Shared) (H : Hp) (C : Addr) (cs : List (Str × Addr)) (fp : List Addr), DG (Cx.bl X s H scope C cs fp) cl tg b ws) (ht : ∀ (s : Shared) (H : Hp) (C : Addr) (cs : List (Str × Addr)) (fp : List Addr), DTs (Cx.bl X s H scope C cs fp) cl E0_ ifs t)
    (hi1 : ∀ (s : Shared) (H : Hp) (C : Addr) (cs : List (Str × Addr)) (fp : List Addr), DI (Cx.bl X s H scope C cs fp) cl E0_ tg1 iter1 fi1) (hg1 : ∀ (s : Shared) (H : Hp) (C : Addr) (cs : List (Str × Addr)) (fp : List Addr), DG (Cx.bl X s H scope C cs fp) cl tg1 b1 ws1)
    (ht1 : ∀ (s : Shared) (H : Hp) (C : Addr) (cs : List (Str × Addr)) (fp : List Addr), DTs (Cx.bl X s H scope C cs fp) cl E0_ ifs1 t1) (he : ∀ (s : Shared) (H : Hp) (C : Addr) (cs : List (Str × Addr)) (fp : List Addr), DE (Cx.bl X s H scope C cs fp) cl E0_ elt f)
    (hv : ∀ i ∈ vs1, i ∈ own.map (·.2) := by decide) (hw : ∀ i ∈ ws, i ∈ own.map (·.2) := by decide) (hw1 : ∀ i ∈ ws1, i ∈ vs1 := by decide) (hs : ∀ x, foldedSetIterable iter X.env x = pure x := by intro _; rfl) (hs1 : ∀ env x, foldedSetIterable iter1 env x = pure x := by intro _ _; rfl) :
    DE X cl E (.ListComp elt [⟨tg, iter, ifs, 0⟩, ⟨tg1, iter1, ifs1, 0⟩] scope pos) (cComp2 fi b t fi1 b1 t1 f (own.map (·.2)) vs1) :=
  pe_imp (pe_lc2 hc hN hi ok hv hg ht hi1 hg1 ht1 he hs hs1) fun σ H Q h => tLc2_of (G := ⟨X.K, cl⟩) hw hw1 h
end
end DN
/-! DO5: a dict beside a value of another kind: == is False. (printed) -/
namespace PySem.SeqAt
open AutoSeq1 (wpAny_loadPart')
open MeetsSeq

theorem isSame_unlike {M : Model} {A : Around} {E : Value → Shared → Prop} {s : Shared} {x y : Addr} {ox oy : Obj} {R : Bool → Shared → Prop} (hxy : x ≠ y) (hx : s.heap.get? x = some ox) (hy : s.heap.get? y = some oy) (hnt : ox.cls ≠ .type "tuple" ∨ oy.cls ≠ .type "tuple")
    (h : R false s) : wpAny M A (isSame (.ref x) (.ref y)) R E s := by
  show wpAny M A (if (x == y) = true then pure true else _) R E s
  rw [if_neg (by simpa using hxy)]
  refine wpAny_bind (wpAny_load hx (wpAny_bind (wpAny_load hy ?_)))
  split
  · rename_i _ _ _ _ h1 h2 _ _
    rcases hnt with z | z
    · first | exact absurd h1 z | exact absurd h2 z
    · first | exact absurd h2 z | exact absurd h1 z
  · exact wpAny_pure h
theorem dk_dict_none (l : Addr) (es : Array DictEntry) (n : Nat) (dd : Option Addr) (sl : Array (Option Value)) :
    Meets (Builtin.«dict.__eq__» ⟨[.ref l, .none], []⟩) (fun _ R s => s.heap.get? l = some { cls := .type "dict", dict := dd, data := .dict es n, slots := sl } ∧ R (.ok (.ret .notImplemented)) s) :=
  .of_wp fun prog w A R s h => by obtain ⟨hp, g, d, tk, os⟩ := s; obtain ⟨hl, h⟩ := h; have f1 := F.sub_NoneType_dict; wp_walk using wpAny_loadPart' hl, wpAny_load hl; exact ⟨_, rfl, h⟩
theorem dk_dict_bool (l : Addr) (es : Array DictEntry) (n : Nat) (dd : Option Addr) (sl : Array (Option Value)) (b : Bool) :
    Meets (Builtin.«dict.__eq__» ⟨[.ref l, .bool b], []⟩) (fun _ R s => s.heap.get? l = some { cls := .type "dict", dict := dd, data := .dict es n, slots := sl } ∧ R (.ok (.ret .notImplemented)) s) :=
  .of_wp fun prog w A R s h => by obtain ⟨hp, g, d, tk, os⟩ := s; obtain ⟨hl, h⟩ := h; have f1 := F.sub_bool_dict; wp_walk using wpAny_loadPart' hl, wpAny_load hl; exact ⟨_, rfl, h⟩
theorem dk_bool_dict (l : Addr) (es : Array DictEntry) (n : Nat) (dd : Option Addr) (sl : Array (Option Value)) (b : Bool) :
    Meets (Builtin.«int.__eq__» ⟨[.bool b, .ref l], []⟩) (fun _ R s => s.heap.get? l = some { cls := .type "dict", dict := dd, data := .dict es n, slots := sl } ∧ R (.ok (.ret .notImplemented)) s) :=
  .of_wp fun prog w A R s h => by obtain ⟨hp, g, d, tk, os⟩ := s; obtain ⟨hl, h⟩ := h; wp_walk using wpAny_loadPart' hl, wpAny_load hl; exact ⟨_, rfl, h⟩
theorem dk_dict_int (l : Addr) (es : Array DictEntry) (n : Nat) (dd : Option Addr) (sl : Array (Option Value)) (b : Int) (u : Tok) :
    Meets (Builtin.«dict.__eq__» ⟨[.ref l, .int b u], []⟩) (fun _ R s => s.heap.get? l = some { cls := .type "dict", dict := dd, data := .dict es n, slots := sl } ∧ R (.ok (.ret .notImplemented)) s) :=
  .of_wp fun prog w A R s h => by obtain ⟨hp, g, d, tk, os⟩ := s; obtain ⟨hl, h⟩ := h; have f1 := F.sub_int_dict; wp_walk using wpAny_loadPart' hl, wpAny_load hl; exact ⟨_, rfl, h⟩
theorem dk_int_dict (l : Addr) (es : Array DictEntry) (n : Nat) (dd : Option Addr) (sl : Array (Option Value)) (b : Int) (u : Tok) :
    Meets (Builtin.«int.__eq__» ⟨[.int b u, .ref l], []⟩) (fun _ R s => s.heap.get? l = some { cls := .type "dict", dict := dd, data := .dict es n, slots := sl } ∧ R (.ok (.ret .notImplemented)) s) :=
  .of_wp fun prog w A R s h => by obtain ⟨hp, g, d, tk, os⟩ := s; obtain ⟨hl, h⟩ := h; wp_walk using wpAny_loadPart' hl, wpAny_load hl; exact ⟨_, rfl, h⟩
theorem dk_dict_str (l : Addr) (es : Array DictEntry) (n : Nat) (dd : Option Addr) (sl : Array (Option Value)) (b : Str) (u : Tok) :
    Meets (Builtin.«dict.__eq__» ⟨[.ref l, .str b u], []⟩) (fun _ R s => s.heap.get? l = some { cls := .type "dict", dict := dd, data := .dict es n, slots := sl } ∧ R (.ok (.ret .notImplemented)) s) :=
  .of_wp fun prog w A R s h => by obtain ⟨hp, g, d, tk, os⟩ := s; obtain ⟨hl, h⟩ := h; have f1 := F.sub_str_dict; wp_walk using wpAny_loadPart' hl, wpAny_load hl; exact ⟨_, rfl, h⟩
theorem dk_str_dict (l : Addr) (es : Array DictEntry) (n : Nat) (dd : Option Addr) (sl : Array (Option Value)) (b : Str) (u : Tok) :
    Meets (Builtin.«str.__eq__» ⟨[.str b u, .ref l], []⟩) (fun _ R s => s.heap.get? l = some { cls := .type "dict", dict := dd, data := .dict es n, slots := sl } ∧ R (.ok (.ret .notImplemented)) s) :=
  .of_wp fun prog w A R s h => by obtain ⟨hp, g, d, tk, os⟩ := s; obtain ⟨hl, h⟩ := h; wp_walk using wpAny_loadPart' hl, wpAny_load hl; exact ⟨_, rfl, h⟩
theorem dk_dict_list (l a : Addr) (es : Array DictEntry) (n m : Nat) (dd de : Option Addr) (sl sm : Array (Option Value)) (items : Array Value) :
    Meets (Builtin.«dict.__eq__» ⟨[.ref l, .ref a], []⟩) (fun _ R s => s.heap.get? l = some { cls := .type "dict", dict := dd, data := .dict es n, slots := sl } ∧ s.heap.get? a = some { cls := .type "list", dict := de, data := .seq items m, slots := sm } ∧ R (.ok (.ret .notImplemented)) s) :=
  .of_wp fun prog w A R s h => by obtain ⟨hp, g, d, tk, os⟩ := s; obtain ⟨hl, ha, h⟩ := h; have f1 := F.sub_list_dict; wp_walk using wpAny_loadPart' hl, wpAny_load hl, wpAny_loadPart' ha, wpAny_load ha; exact ⟨_, rfl, h⟩
theorem dk_list_dict (l a : Addr) (es : Array DictEntry) (n m : Nat) (dd de : Option Addr) (sl sm : Array (Option Value)) (items : Array Value) :
    Meets (Builtin.«list.__eq__» ⟨[.ref a, .ref l], []⟩) (fun _ R s => s.heap.get? l = some { cls := .type "dict", dict := dd, data := .dict es n, slots := sl } ∧ s.heap.get? a = some { cls := .type "list", dict := de, data := .seq items m, slots := sm } ∧ R (.ok (.ret .notImplemented)) s) :=
  .of_wp fun prog w A R s h => by obtain ⟨hp, g, d, tk, os⟩ := s; obtain ⟨hl, ha, h⟩ := h; have f1 := F.sub_dict_list; wp_walk using wpAny_loadPart' hl, wpAny_load hl, wpAny_loadPart' ha, wpAny_load ha; exact ⟨_, rfl, h⟩
theorem dk_dict_tuple (l a : Addr) (es : Array DictEntry) (n m : Nat) (dd de : Option Addr) (sl sm : Array (Option Value)) (items : Array Value) :
    Meets (Builtin.«dict.__eq__» ⟨[.ref l, .ref a], []⟩) (fun _ R s => s.heap.get? l = some { cls := .type "dict", dict := dd, data := .dict es n, slots := sl } ∧ s.heap.get? a = some { cls := .type "tuple", dict := de, data := .seq items m, slots := sm } ∧ R (.ok (.ret .notImplemented)) s) :=
  .of_wp fun prog w A R s h => by obtain ⟨hp, g, d, tk, os⟩ := s; obtain ⟨hl, ha, h⟩ := h; have f1 := F.sub_tuple_dict; wp_walk using wpAny_loadPart' hl, wpAny_load hl, wpAny_loadPart' ha, wpAny_load ha; exact ⟨_, rfl, h⟩
theorem dk_tuple_dict (l a : Addr) (es : Array DictEntry) (n m : Nat) (dd de : Option Addr) (sl sm : Array (Option Value)) (items : Array Value) :
    Meets (Builtin.«tuple.__eq__» ⟨[.ref a, .ref l], []⟩) (fun _ R s => s.heap.get? l = some { cls := .type "dict", dict := dd, data := .dict es n, slots := sl } ∧ s.heap.get? a = some { cls := .type "tuple", dict := de, data := .seq items m, slots := sm } ∧ R (.ok (.ret .notImplemented)) s) :=
  .of_wp fun prog w A R s h => by obtain ⟨hp, g, d, tk, os⟩ := s; obtain ⟨hl, ha, h⟩ := h; have f1 := F.sub_dict_tuple; wp_walk using wpAny_loadPart' hl, wpAny_load hl, wpAny_loadPart' ha, wpAny_load ha; exact ⟨_, rfl, h⟩
def IsDct (s : Shared) (l : Addr) : Prop := ∃ es n dd sl, s.heap.get? l = some { cls := .type "dict", dict := dd, data := .dict es n, slots := sl }
section
variable {A : Around} {s : Shared}
theorem RcAt.dict_none {l : Addr} (hl : IsDct s l) (hu : A.units < cLine) : RcAt A s (.ref l) (.none) false := fun prog w E Q h => by
  obtain ⟨es, n, dd, sl, ho⟩ := hl
  exact rc_eq_decline_or (k := false) ⟨_, ho, rfl⟩ rfl (by decide) F.sub_NoneType_dict F.slot_dict_eq F.slot_NoneType_eq_refl
    (fun _ hq => call_meets F.slot_dict_eq ⟨_, ho, rfl⟩ F.entry_dict_eq (F.args_dict_eq_2 _ _) (dk_dict_none l es n dd sl ) ⟨ho, hq⟩)
    (fun _ hq => call_gives F.slot_NoneType_eq_refl rfl F.entry_NoneType_eq (F.args_NoneType_eq_2 _ _) (NoneType___eq___none_ref_0 l) hq)
    (fun _ hq => wpAny_of_eq (rfl : isSame (.ref l) (.none) = pure false) hq) (.inr hu) h
theorem EqAt.dict_none {l : Addr} (hl : IsDct s l) (hu : A.units < cLine) : EqAt A s (.ref l) (.none) false := fun prog w E Q h => by
  unfold eqBool
  refine wpAny_holding ?_
  refine wpAny_ite_split (fun hab => absurd (eq_of_beq hab) nofun) (fun _ => ?_)
  exact wpAny_bind (RcAt.dict_none hl hu prog w E _ (wpAny_truthy_bool h))
theorem RcAt.none_dict {l : Addr} (hl : IsDct s l) (hu : A.units < cLine) : RcAt A s (.none) (.ref l) false := fun prog w E Q h => by
  obtain ⟨es, n, dd, sl, ho⟩ := hl
  exact rc_eq_decline_or (k := false) rfl ⟨_, ho, rfl⟩ (by decide) F.sub_dict_NoneType F.slot_NoneType_eq F.slot_dict_eq_refl
    (fun _ hq => call_gives F.slot_NoneType_eq rfl F.entry_NoneType_eq (F.args_NoneType_eq_2 _ _) (NoneType___eq___none_ref_0 l) hq)
    (fun _ hq => call_meets F.slot_dict_eq_refl ⟨_, ho, rfl⟩ F.entry_dict_eq (F.args_dict_eq_2 _ _) (dk_dict_none l es n dd sl ) ⟨ho, hq⟩)
    (fun _ hq => wpAny_of_eq (rfl : isSame (.none) (.ref l) = pure false) hq) (.inr hu) h
theorem EqAt.none_dict {l : Addr} (hl : IsDct s l) (hu : A.units < cLine) : EqAt A s (.none) (.ref l) false := fun prog w E Q h => by
  unfold eqBool
  refine wpAny_holding ?_
  refine wpAny_ite_split (fun hab => absurd (eq_of_beq hab) nofun) (fun _ => ?_)
  exact wpAny_bind (RcAt.none_dict hl hu prog w E _ (wpAny_truthy_bool h))
theorem RcAt.dict_bool {l : Addr} (b : Bool) (hl : IsDct s l) (hu : A.units < cLine) : RcAt A s (.ref l) (.bool b) false := fun prog w E Q h => by
  obtain ⟨es, n, dd, sl, ho⟩ := hl
  exact rc_eq_decline_or (k := false) ⟨_, ho, rfl⟩ rfl (by decide) F.sub_bool_dict F.slot_dict_eq F.slot_bool_eq_refl
    (fun _ hq => call_meets F.slot_dict_eq ⟨_, ho, rfl⟩ F.entry_dict_eq (F.args_dict_eq_2 _ _) (dk_dict_bool l es n dd sl b ) ⟨ho, hq⟩)
    (fun _ hq => call_meets F.slot_bool_eq_refl rfl F.entry_int_eq (F.args_int_eq_2 _ _) (dk_bool_dict l es n dd sl b ) ⟨ho, hq⟩)
    (fun _ hq => wpAny_of_eq (rfl : isSame (.ref l) (.bool b) = pure false) hq) (.inr hu) h
theorem EqAt.dict_bool {l : Addr} (b : Bool) (hl : IsDct s l) (hu : A.units < cLine) : EqAt A s (.ref l) (.bool b) false := fun prog w E Q h => by
  unfold eqBool
  refine wpAny_holding ?_
  refine wpAny_ite_split (fun hab => absurd (eq_of_beq hab) nofun) (fun _ => ?_)
  exact wpAny_bind (RcAt.dict_bool b hl hu prog w E _ (wpAny_truthy_bool h))
theorem RcAt.bool_dict {l : Addr} (b : Bool) (hl : IsDct s l) (hu : A.units < cLine) : RcAt A s (.bool b) (.ref l) false := fun prog w E Q h => by
  obtain ⟨es, n, dd, sl, ho⟩ := hl
  exact rc_eq_decline_or (k := false) rfl ⟨_, ho, rfl⟩ (by decide) F.sub_dict_bool F.slot_bool_eq F.slot_dict_eq_refl
    (fun _ hq => call_meets F.slot_bool_eq rfl F.entry_int_eq (F.args_int_eq_2 _ _) (dk_bool_dict l es n dd sl b ) ⟨ho, hq⟩)
    (fun _ hq => call_meets F.slot_dict_eq_refl ⟨_, ho, rfl⟩ F.entry_dict_eq (F.args_dict_eq_2 _ _) (dk_dict_bool l es n dd sl b ) ⟨ho, hq⟩)
    (fun _ hq => wpAny_of_eq (rfl : isSame (.bool b) (.ref l) = pure false) hq) (.inr hu) h
theorem EqAt.bool_dict {l : Addr} (b : Bool) (hl : IsDct s l) (hu : A.units < cLine) : EqAt A s (.bool b) (.ref l) false := fun prog w E Q h => by
  unfold eqBool
  refine wpAny_holding ?_
  refine wpAny_ite_split (fun hab => absurd (eq_of_beq hab) nofun) (fun _ => ?_)
  exact wpAny_bind (RcAt.bool_dict b hl hu prog w E _ (wpAny_truthy_bool h))
theorem RcAt.dict_int {l : Addr} (b : Int) (u : Tok) (hl : IsDct s l) (hu : A.units < cLine) : RcAt A s (.ref l) (.int b u) false := fun prog w E Q h => by
  obtain ⟨es, n, dd, sl, ho⟩ := hl
  exact rc_eq_decline_or (k := false) ⟨_, ho, rfl⟩ rfl (by decide) F.sub_int_dict F.slot_dict_eq F.slot_int_eq_refl
    (fun _ hq => call_meets F.slot_dict_eq ⟨_, ho, rfl⟩ F.entry_dict_eq (F.args_dict_eq_2 _ _) (dk_dict_int l es n dd sl b u ) ⟨ho, hq⟩)
    (fun _ hq => call_meets F.slot_int_eq_refl rfl F.entry_int_eq (F.args_int_eq_2 _ _) (dk_int_dict l es n dd sl b u ) ⟨ho, hq⟩)
    (fun _ hq => wpAny_of_eq (rfl : isSame (.ref l) (.int b u) = pure false) hq) (.inr hu) h
theorem EqAt.dict_int {l : Addr} (b : Int) (u : Tok) (hl : IsDct s l) (hu : A.units < cLine) : EqAt A s (.ref l) (.int b u) false := fun prog w E Q h => by
  unfold eqBool
  refine wpAny_holding ?_
  refine wpAny_ite_split (fun hab => absurd (eq_of_beq hab) nofun) (fun _ => ?_)
  exact wpAny_bind (RcAt.dict_int b u hl hu prog w E _ (wpAny_truthy_bool h))
theorem RcAt.int_dict {l : Addr} (b : Int) (u : Tok) (hl : IsDct s l) (hu : A.units < cLine) : RcAt A s (.int b u) (.ref l) false := fun prog w E Q h => by
  obtain ⟨es, n, dd, sl, ho⟩ := hl
  exact rc_eq_decline_or (k := false) rfl ⟨_, ho, rfl⟩ (by decide) F.sub_dict_int F.slot_int_eq F.slot_dict_eq_refl
    (fun _ hq => call_meets F.slot_int_eq rfl F.entry_int_eq (F.args_int_eq_2 _ _) (dk_int_dict l es n dd sl b u ) ⟨ho, hq⟩)
    (fun _ hq => call_meets F.slot_dict_eq_refl ⟨_, ho, rfl⟩ F.entry_dict_eq (F.args_dict_eq_2 _ _) (dk_dict_int l es n dd sl b u ) ⟨ho, hq⟩)
    (fun _ hq => wpAny_of_eq (rfl : isSame (.int b u) (.ref l) = pure false) hq) (.inr hu) h
theorem EqAt.int_dict {l : Addr} (b : Int) (u : Tok) (hl : IsDct s l) (hu : A.units < cLine) : EqAt A s (.int b u) (.ref l) false := fun prog w E Q h => by
  unfold eqBool
  refine wpAny_holding ?_
  refine wpAny_ite_split (fun hab => absurd (eq_of_beq hab) nofun) (fun _ => ?_)
  exact wpAny_bind (RcAt.int_dict b u hl hu prog w E _ (wpAny_truthy_bool h))
theorem RcAt.dict_str {l : Addr} (b : Str) (u : Tok) (hl : IsDct s l) (hu : A.units < cLine) : RcAt A s (.ref l) (.str b u) false := fun prog w E Q h => by
  obtain ⟨es, n, dd, sl, ho⟩ := hl
  exact rc_eq_decline_or (k := false) ⟨_, ho, rfl⟩ (typeIs_str s b u) (by decide) F.sub_str_dict F.slot_dict_eq F.slot_str_eq_refl
    (fun _ hq => call_meets F.slot_dict_eq ⟨_, ho, rfl⟩ F.entry_dict_eq (F.args_dict_eq_2 _ _) (dk_dict_str l es n dd sl b u ) ⟨ho, hq⟩)
    (fun _ hq => call_meets F.slot_str_eq_refl (typeIs_str s b u) F.entry_str_eq (F.args_str_eq_2 _ _) (dk_str_dict l es n dd sl b u ) ⟨ho, hq⟩)
    (fun _ hq => wpAny_of_eq (rfl : isSame (.ref l) (.str b u) = pure false) hq) (.inr hu) h
theorem EqAt.dict_str {l : Addr} (b : Str) (u : Tok) (hl : IsDct s l) (hu : A.units < cLine) : EqAt A s (.ref l) (.str b u) false := fun prog w E Q h => by
  unfold eqBool
  refine wpAny_holding ?_
  refine wpAny_ite_split (fun hab => absurd (eq_of_beq hab) nofun) (fun _ => ?_)
  exact wpAny_bind (RcAt.dict_str b u hl hu prog w E _ (wpAny_truthy_bool h))
theorem RcAt.str_dict {l : Addr} (b : Str) (u : Tok) (hl : IsDct s l) (hu : A.units < cLine) : RcAt A s (.str b u) (.ref l) false := fun prog w E Q h => by
  obtain ⟨es, n, dd, sl, ho⟩ := hl
  exact rc_eq_decline_or (k := false) (typeIs_str s b u) ⟨_, ho, rfl⟩ (by decide) F.sub_dict_str F.slot_str_eq F.slot_dict_eq_refl
    (fun _ hq => call_meets F.slot_str_eq (typeIs_str s b u) F.entry_str_eq (F.args_str_eq_2 _ _) (dk_str_dict l es n dd sl b u ) ⟨ho, hq⟩)
    (fun _ hq => call_meets F.slot_dict_eq_refl ⟨_, ho, rfl⟩ F.entry_dict_eq (F.args_dict_eq_2 _ _) (dk_dict_str l es n dd sl b u ) ⟨ho, hq⟩)
    (fun _ hq => wpAny_of_eq (rfl : isSame (.str b u) (.ref l) = pure false) hq) (.inr hu) h
theorem EqAt.str_dict {l : Addr} (b : Str) (u : Tok) (hl : IsDct s l) (hu : A.units < cLine) : EqAt A s (.str b u) (.ref l) false := fun prog w E Q h => by
  unfold eqBool
  refine wpAny_holding ?_
  refine wpAny_ite_split (fun hab => absurd (eq_of_beq hab) nofun) (fun _ => ?_)
  exact wpAny_bind (RcAt.str_dict b u hl hu prog w E _ (wpAny_truthy_bool h))
theorem RcAt.dict_list {l a : Addr} {items : Array Value} (hl : IsDct s l) (ha : s.heap.IsList a items) (hu : A.units < cLine) : RcAt A s (.ref l) (.ref a) false := fun prog w E Q h => by
  obtain ⟨es, n, dd, sl, ho⟩ := hl
  obtain ⟨⟨cls, de, data, sm⟩, ha, hc, m, hd⟩ := id ha
  simp only at hc hd
  subst hc hd
  have ne : l ≠ a := fun z => by
    have e := ho.symm.trans ((congrArg s.heap.get? z).trans ha)
    have := congrArg Obj.data (Option.some.inj e)
    cases this
  exact rc_eq_decline_or (k := false) ⟨_, ho, rfl⟩ ⟨_, ha, rfl⟩ (by decide) F.sub_list_dict F.slot_dict_eq F.slot_list_eq_refl
    (fun _ hq => call_meets F.slot_dict_eq ⟨_, ho, rfl⟩ F.entry_dict_eq (F.args_dict_eq_2 _ _) (dk_dict_list l a es n m dd de sl sm items) ⟨ho, ha, hq⟩)
    (fun _ hq => call_meets F.slot_list_eq_refl ⟨_, ha, rfl⟩ F.entry_list_eq (F.args_list_eq_2 _ _) (dk_list_dict l a es n m dd de sl sm items) ⟨ho, ha, hq⟩)
    (fun _ hq => isSame_unlike ne ho ha (.inl (show Value.type "dict" ≠ Value.type "tuple" from by decide)) hq) (.inr hu) h
theorem EqAt.dict_list {l a : Addr} {items : Array Value} (hl : IsDct s l) (ha : s.heap.IsList a items) (hu : A.units < cLine) : EqAt A s (.ref l) (.ref a) false := .of_refs (by
    obtain ⟨es, n, dd, sl, ho⟩ := hl
    obtain ⟨⟨cls, de, data, sm⟩, ha, hc, m, hd⟩ := id ha
    simp only at hc hd
    subst hc hd
    have ne : l ≠ a := fun z => by
      have e := ho.symm.trans ((congrArg s.heap.get? z).trans ha)
      have := congrArg Obj.data (Option.some.inj e)
      cases this
    exact ne) (RcAt.dict_list hl ha hu)
theorem RcAt.list_dict {l a : Addr} {items : Array Value} (hl : IsDct s l) (ha : s.heap.IsList a items) (hu : A.units < cLine) : RcAt A s (.ref a) (.ref l) false := fun prog w E Q h => by
  obtain ⟨es, n, dd, sl, ho⟩ := hl
  obtain ⟨⟨cls, de, data, sm⟩, ha, hc, m, hd⟩ := id ha
  simp only at hc hd
  subst hc hd
  have ne : a ≠ l := fun z => by
    have e := ha.symm.trans ((congrArg s.heap.get? z).trans ho)
    have := congrArg Obj.data (Option.some.inj e)
    cases this
  exact rc_eq_decline_or (k := false) ⟨_, ha, rfl⟩ ⟨_, ho, rfl⟩ (by decide) F.sub_dict_list F.slot_list_eq F.slot_dict_eq_refl
    (fun _ hq => call_meets F.slot_list_eq ⟨_, ha, rfl⟩ F.entry_list_eq (F.args_list_eq_2 _ _) (dk_list_dict l a es n m dd de sl sm items) ⟨ho, ha, hq⟩)
    (fun _ hq => call_meets F.slot_dict_eq_refl ⟨_, ho, rfl⟩ F.entry_dict_eq (F.args_dict_eq_2 _ _) (dk_dict_list l a es n m dd de sl sm items) ⟨ho, ha, hq⟩)
    (fun _ hq => isSame_unlike ne ha ho (.inr (show Value.type "dict" ≠ Value.type "tuple" from by decide)) hq) (.inr hu) h
theorem EqAt.list_dict {l a : Addr} {items : Array Value} (hl : IsDct s l) (ha : s.heap.IsList a items) (hu : A.units < cLine) : EqAt A s (.ref a) (.ref l) false := .of_refs (by
    obtain ⟨es, n, dd, sl, ho⟩ := hl
    obtain ⟨⟨cls, de, data, sm⟩, ha, hc, m, hd⟩ := id ha
    simp only at hc hd
    subst hc hd
    have ne : a ≠ l := fun z => by
      have e := ha.symm.trans ((congrArg s.heap.get? z).trans ho)
      have := congrArg Obj.data (Option.some.inj e)
      cases this
    exact ne) (RcAt.list_dict hl ha hu)
theorem RcAt.dict_tuple {l a : Addr} {items : Array Value} (hl : IsDct s l) (ha : s.heap.IsTuple a items) (hu : A.units < cLine) : RcAt A s (.ref l) (.ref a) false := fun prog w E Q h => by
  obtain ⟨es, n, dd, sl, ho⟩ := hl
  obtain ⟨⟨cls, de, data, sm⟩, ha, hc, m, hd⟩ := id ha
  simp only at hc hd
  subst hc hd
  have ne : l ≠ a := fun z => by
    have e := ho.symm.trans ((congrArg s.heap.get? z).trans ha)
    have := congrArg Obj.data (Option.some.inj e)
    cases this
  exact rc_eq_decline_or (k := false) ⟨_, ho, rfl⟩ ⟨_, ha, rfl⟩ (by decide) F.sub_tuple_dict F.slot_dict_eq F.slot_tuple_eq_refl
    (fun _ hq => call_meets F.slot_dict_eq ⟨_, ho, rfl⟩ F.entry_dict_eq (F.args_dict_eq_2 _ _) (dk_dict_tuple l a es n m dd de sl sm items) ⟨ho, ha, hq⟩)
    (fun _ hq => call_meets F.slot_tuple_eq_refl ⟨_, ha, rfl⟩ F.entry_tuple_eq (F.args_tuple_eq_2 _ _) (dk_tuple_dict l a es n m dd de sl sm items) ⟨ho, ha, hq⟩)
    (fun _ hq => isSame_unlike ne ho ha (.inl (show Value.type "dict" ≠ Value.type "tuple" from by decide)) hq) (.inr hu) h
theorem EqAt.dict_tuple {l a : Addr} {items : Array Value} (hl : IsDct s l) (ha : s.heap.IsTuple a items) (hu : A.units < cLine) : EqAt A s (.ref l) (.ref a) false := .of_refs (by
    obtain ⟨es, n, dd, sl, ho⟩ := hl
    obtain ⟨⟨cls, de, data, sm⟩, ha, hc, m, hd⟩ := id ha
    simp only at hc hd
    subst hc hd
    have ne : l ≠ a := fun z => by
      have e := ho.symm.trans ((congrArg s.heap.get? z).trans ha)
      have := congrArg Obj.data (Option.some.inj e)
      cases this
    exact ne) (RcAt.dict_tuple hl ha hu)
theorem RcAt.tuple_dict {l a : Addr} {items : Array Value} (hl : IsDct s l) (ha : s.heap.IsTuple a items) (hu : A.units < cLine) : RcAt A s (.ref a) (.ref l) false := fun prog w E Q h => by
  obtain ⟨es, n, dd, sl, ho⟩ := hl
  obtain ⟨⟨cls, de, data, sm⟩, ha, hc, m, hd⟩ := id ha
  simp only at hc hd
  subst hc hd
  have ne : a ≠ l := fun z => by
    have e := ha.symm.trans ((congrArg s.heap.get? z).trans ho)
    have := congrArg Obj.data (Option.some.inj e)
    cases this
  exact rc_eq_decline_or (k := false) ⟨_, ha, rfl⟩ ⟨_, ho, rfl⟩ (by decide) F.sub_dict_tuple F.slot_tuple_eq F.slot_dict_eq_refl
    (fun _ hq => call_meets F.slot_tuple_eq ⟨_, ha, rfl⟩ F.entry_tuple_eq (F.args_tuple_eq_2 _ _) (dk_tuple_dict l a es n m dd de sl sm items) ⟨ho, ha, hq⟩)
    (fun _ hq => call_meets F.slot_dict_eq_refl ⟨_, ho, rfl⟩ F.entry_dict_eq (F.args_dict_eq_2 _ _) (dk_dict_tuple l a es n m dd de sl sm items) ⟨ho, ha, hq⟩)
    (fun _ hq => isSame_unlike ne ha ho (.inr (show Value.type "dict" ≠ Value.type "tuple" from by decide)) hq) (.inr hu) h
theorem EqAt.tuple_dict {l a : Addr} {items : Array Value} (hl : IsDct s l) (ha : s.heap.IsTuple a items) (hu : A.units < cLine) : EqAt A s (.ref a) (.ref l) false := .of_refs (by
    obtain ⟨es, n, dd, sl, ho⟩ := hl
    obtain ⟨⟨cls, de, data, sm⟩, ha, hc, m, hd⟩ := id ha
    simp only at hc hd
    subst hc hd
    have ne : a ≠ l := fun z => by
      have e := ha.symm.trans ((congrArg s.heap.get? z).trans ho)
      have := congrArg Obj.data (Option.some.inj e)
      cases this
    exact ne) (RcAt.tuple_dict hl ha hu)
end
end PySem.SeqAt
/-! DO6: == of data of any depth, {} too. -/
namespace DN
open PySem PySem.Spec PyProof.Rows L2 SeqAt
def kn : D → Option Nat
  | .non => some 0
  | .bl _ => some 1
  | .int _ => some 1
  | .str _ => some 2
  | .lst _ => some 3
  | .tup _ => some 4
  | .dct kvs => if kvs.isEmpty = true then some 5 else none
  | _ => none
theorem kn_dct {kvs : List (D × D)} {i : Nat} (h : kn (.dct kvs) = some i) : i = 5 := by
  cases kvs with
  | nil => cases h; rfl
  | cons _ _ => cases h
def eqS : D → D → Bool
  | .non, .non => true
  | .bl a, .bl b => a == b
  | .int a, .int b => a == b
  | .bl a, .int b => (if a then 1 else 0) == b
  | .int a, .bl b => a == (if b then 1 else 0)
  | .str a, .str b => a == b
  | _, _ => false
def allN (f : D → D → Option Bool) : List D → List D → Option Bool
  | x :: xs, y :: ys => match f x y, allN f xs ys with
    | some a, some b => some (a && b)
    | _, _ => none
  | _, _ => some true
def eqB (f : D → D → Option Bool) (deep : Bool) (x y : D) : Option Bool := match kn x, kn y with
  | some i, some j => if i = j then (match x, y with
      | .lst xs, .lst ys => if deep = true then (if xs.length = ys.length then allN f xs ys else some false) else none
      | .tup xs, .tup ys => if deep = true then (allN f xs ys).map fun b => b && decide (xs.length = ys.length) else none
      | .dct _, .dct _ => if deep = true then some true else none
      | x, y => some (eqS x y)) else some false
  | _, _ => none
def eqN : Nat → D → D → Option Bool
  | 0 => eqB (fun _ _ => none) false
  | n + 1 => eqB (eqN n) true
inductive Sv (s : Shared) : Value → Nat → Prop
  | non : Sv s .none 0
  | bl (b : Bool) : Sv s (.bool b) 1
  | int (i : Int) (t : Tok) : Sv s (.int i t) 1
  | str (x : Str) (t : Tok) : Sv s (.str x t) 2
  | lst {a : Addr} {items : Array Value} : s.heap.IsList a items → Sv s (.ref a) 3
  | tup {a : Addr} {items : Array Value} : s.heap.IsTuple a items → Sv s (.ref a) 4
  | dct {a : Addr} : IsDct s a → Sv s (.ref a) 5
theorem sv_unlike {A : Around} {s : Shared} (hu : A.units < cLine) : ∀ {u w : Value} {i j : Nat}, Sv s u i → Sv s w j → i ≠ j → RcAt A s u w false ∧ EqAt A s u w false
  | _, _, _, _, .non, .non, ne => absurd rfl ne
  | _, _, _, _, .non, .bl b2, _ => ⟨RcAt.none_bool b2, EqAt.none_bool b2⟩
  | _, _, _, _, .non, .int i2 t2, _ => ⟨RcAt.none_int i2 t2, EqAt.none_int i2 t2⟩
  | _, _, _, _, .non, .str x2 t2, _ => ⟨RcAt.none_str x2 t2, EqAt.none_str x2 t2⟩
  | _, _, _, _, .non, .lst h2, _ => ⟨RcAt.none_list h2 hu, EqAt.none_list h2 hu⟩
  | _, _, _, _, .non, .tup h2, _ => ⟨RcAt.none_tuple h2 hu, EqAt.none_tuple h2 hu⟩
  | _, _, _, _, .non, .dct h2, _ => ⟨RcAt.none_dict h2 hu, EqAt.none_dict h2 hu⟩
  | _, _, _, _, .bl b1, .non, _ => ⟨RcAt.bool_none b1, EqAt.bool_none b1⟩
  | _, _, _, _, .bl b1, .bl b2, ne => absurd rfl ne
  | _, _, _, _, .bl b1, .int i2 t2, ne => absurd rfl ne
  | _, _, _, _, .bl b1, .str x2 t2, _ => ⟨RcAt.bool_str b1 x2 t2, EqAt.bool_str b1 x2 t2⟩
  | _, _, _, _, .bl b1, .lst h2, _ => ⟨RcAt.bool_list b1 h2 hu, EqAt.bool_list b1 h2 hu⟩
  | _, _, _, _, .bl b1, .tup h2, _ => ⟨RcAt.bool_tuple b1 h2 hu, EqAt.bool_tuple b1 h2 hu⟩
  | _, _, _, _, .bl b1, .dct h2, _ => ⟨RcAt.bool_dict b1 h2 hu, EqAt.bool_dict b1 h2 hu⟩
  | _, _, _, _, .int i1 t1, .non, _ => ⟨RcAt.int_none i1 t1, EqAt.int_none i1 t1⟩
  | _, _, _, _, .int i1 t1, .bl b2, ne => absurd rfl ne
  | _, _, _, _, .int i1 t1, .int i2 t2, ne => absurd rfl ne
  | _, _, _, _, .int i1 t1, .str x2 t2, _ => ⟨RcAt.int_str i1 t1 x2 t2, EqAt.int_str i1 t1 x2 t2⟩
  | _, _, _, _, .int i1 t1, .lst h2, _ => ⟨RcAt.int_list i1 t1 h2 hu, EqAt.int_list i1 t1 h2 hu⟩
  | _, _, _, _, .int i1 t1, .tup h2, _ => ⟨RcAt.int_tuple i1 t1 h2 hu, EqAt.int_tuple i1 t1 h2 hu⟩
  | _, _, _, _, .int i1 t1, .dct h2, _ => ⟨RcAt.int_dict i1 t1 h2 hu, EqAt.int_dict i1 t1 h2 hu⟩
  | _, _, _, _, .str x1 t1, .non, _ => ⟨RcAt.str_none x1 t1, EqAt.str_none x1 t1⟩
  | _, _, _, _, .str x1 t1, .bl b2, _ => ⟨RcAt.str_bool x1 t1 b2, EqAt.str_bool x1 t1 b2⟩
  | _, _, _, _, .str x1 t1, .int i2 t2, _ => ⟨RcAt.str_int x1 t1 i2 t2, EqAt.str_int x1 t1 i2 t2⟩
  | _, _, _, _, .str x1 t1, .str x2 t2, ne => absurd rfl ne
  | _, _, _, _, .str x1 t1, .lst h2, _ => ⟨RcAt.str_list x1 t1 h2 hu, EqAt.str_list x1 t1 h2 hu⟩
  | _, _, _, _, .str x1 t1, .tup h2, _ => ⟨RcAt.str_tuple x1 t1 h2 hu, EqAt.str_tuple x1 t1 h2 hu⟩
  | _, _, _, _, .str x1 t1, .dct h2, _ => ⟨RcAt.str_dict x1 t1 h2 hu, EqAt.str_dict x1 t1 h2 hu⟩
  | _, _, _, _, .lst h1, .non, _ => ⟨RcAt.list_none h1 hu, EqAt.list_none h1 hu⟩
  | _, _, _, _, .lst h1, .bl b2, _ => ⟨RcAt.list_bool b2 h1 hu, EqAt.list_bool b2 h1 hu⟩
  | _, _, _, _, .lst h1, .int i2 t2, _ => ⟨RcAt.list_int i2 t2 h1 hu, EqAt.list_int i2 t2 h1 hu⟩
  | _, _, _, _, .lst h1, .str x2 t2, _ => ⟨RcAt.list_str x2 t2 h1 hu, EqAt.list_str x2 t2 h1 hu⟩
  | _, _, _, _, .lst h1, .lst h2, ne => absurd rfl ne
  | _, _, _, _, .lst h1, .tup h2, _ => ⟨RcAt.list_tuple h1 h2 hu, EqAt.list_tuple h1 h2 hu⟩
  | _, _, _, _, .lst h1, .dct h2, _ => ⟨RcAt.list_dict h2 h1 hu, EqAt.list_dict h2 h1 hu⟩
  | _, _, _, _, .tup h1, .non, _ => ⟨RcAt.tuple_none h1 hu, EqAt.tuple_none h1 hu⟩
  | _, _, _, _, .tup h1, .bl b2, _ => ⟨RcAt.tuple_bool b2 h1 hu, EqAt.tuple_bool b2 h1 hu⟩
  | _, _, _, _, .tup h1, .int i2 t2, _ => ⟨RcAt.tuple_int i2 t2 h1 hu, EqAt.tuple_int i2 t2 h1 hu⟩
  | _, _, _, _, .tup h1, .str x2 t2, _ => ⟨RcAt.tuple_str x2 t2 h1 hu, EqAt.tuple_str x2 t2 h1 hu⟩
  | _, _, _, _, .tup h1, .lst h2, _ => ⟨RcAt.tuple_list h1 h2 hu, EqAt.tuple_list h1 h2 hu⟩
  | _, _, _, _, .tup h1, .tup h2, ne => absurd rfl ne
  | _, _, _, _, .tup h1, .dct h2, _ => ⟨RcAt.tuple_dict h2 h1 hu, EqAt.tuple_dict h2 h1 hu⟩
  | _, _, _, _, .dct h1, .non, _ => ⟨RcAt.dict_none h1 hu, EqAt.dict_none h1 hu⟩
  | _, _, _, _, .dct h1, .bl b2, _ => ⟨RcAt.dict_bool b2 h1 hu, EqAt.dict_bool b2 h1 hu⟩
  | _, _, _, _, .dct h1, .int i2 t2, _ => ⟨RcAt.dict_int i2 t2 h1 hu, EqAt.dict_int i2 t2 h1 hu⟩
  | _, _, _, _, .dct h1, .str x2 t2, _ => ⟨RcAt.dict_str x2 t2 h1 hu, EqAt.dict_str x2 t2 h1 hu⟩
  | _, _, _, _, .dct h1, .lst h2, _ => ⟨RcAt.dict_list h1 h2 hu, EqAt.dict_list h1 h2 hu⟩
  | _, _, _, _, .dct h1, .tup h2, _ => ⟨RcAt.dict_tuple h1 h2 hu, EqAt.dict_tuple h1 h2 hu⟩
  | _, _, _, _, .dct h1, .dct h2, ne => absurd rfl ne
section
variable {X : Cx} {pins : List (Addr × Obj)} {σ : L2.St} {H : Hp} {s : Shared} {cl : Cls_} {W : Wd}
theorem dctV (I : Inv X pins σ H s) {a : Addr} (h : H a = some (.dK [])) : IsDct s a ∧ (a == sysModules) = false ∧ s.heap.DictOf (mixKind X.prog X.w) a [] := by
  obtain ⟨_, hsys, vs, r0, dd⟩ := dk_of I.hok h
  cases r0
  obtain ⟨⟨oc, od, odt, osl⟩, es, ep, e1, e2, e3, _⟩ := id dd
  have e2c := e2.1
  dsimp only at e2c e3
  subst e2c e3
  exact ⟨⟨es, ep, od, osl, e1⟩, hsys, dd⟩
theorem sv_of (I : Inv X pins σ H s) {v : V} {u : Value} {d : D} {i : Nat} (r : Rp ⟨X.K, cl⟩ W H v d) (e : RelV v u) (h : kn d = some i) : Sv s u i := by
  cases r with
  | non => cases e; cases h; exact .non
  | bl b => cases e; cases h; exact .bl b
  | int i => obtain ⟨t, rfl⟩ := e; cases h; exact .int _ t
  | str x => obtain ⟨t, rfl⟩ := e; cases h; exact .str _ t
  | tup ha _ =>
    cases e; cases h
    obtain ⟨its, rv, ⟨o, ho, hc, n, hd⟩, _⟩ := I.tuple ha.sq
    exact .tup ⟨o, ho, hc, n, hd⟩
  | lst ha _ _ =>
    cases e; cases h
    obtain ⟨its, rv, ⟨o, n, ho, hc, _, hd⟩, _⟩ := I.list (SqL.of ha)
    exact .lst ⟨o, ho, hc, n, hd⟩
  | @dct a kvs ds ha _ rk =>
    cases e
    cases ds with
    | nil => cases rk; cases h; exact .dct (dctV I ha).1
    | cons _ _ => cases h
  | scr _ => cases h
  | «mut» _ => cases h
  | opq _ _ => cases h
  | ins _ _ _ _ => cases h
  | cls _ => cases h
  | exn0 _ _ _ => cases h
  | exn1 _ _ _ _ _ _ => cases h
theorem scal_eq {A : Around} {v w : V} {u1 u2 : Value} {x y : D} {i : Nat} (r1 : Rp ⟨X.K, cl⟩ W H v x) (r2 : Rp ⟨X.K, cl⟩ W H w y) (e1 : RelV v u1) (e2 : RelV w u2) (k1 : kn x = some i) (k2 : kn y = some i) (hi : i ≤ 2) : RcAt A s u1 u2 (eqS x y) ∧ EqAt A s u1 u2 (eqS x y) := by
  cases r1 with
  | non =>
    cases k1
    cases r2 with
    | non => cases e1; cases e2; exact ⟨.none_none, .same _⟩
    | dct _ _ _ => exact absurd (kn_dct k2) (by decide)
    | _ => cases k2
  | bl b =>
    cases k1; cases e1
    cases r2 with
    | bl c => cases e2; exact ⟨.bool_bool b c, .bool_bool b c⟩
    | int j => obtain ⟨t, rfl⟩ := e2; exact ⟨.bool_int b j t, .bool_int b j t⟩
    | dct _ _ _ => exact absurd (kn_dct k2) (by decide)
    | _ => cases k2
  | int j =>
    cases k1
    obtain ⟨t, rfl⟩ := e1
    cases r2 with
    | bl c => cases e2; exact ⟨.int_bool j t c, .int_bool j t c⟩
    | int j2 => obtain ⟨t2, rfl⟩ := e2; exact ⟨.int_int j t j2 t2, .int_int j t j2 t2⟩
    | dct _ _ _ => exact absurd (kn_dct k2) (by decide)
    | _ => cases k2
  | str z =>
    cases k1
    obtain ⟨t, rfl⟩ := e1
    cases r2 with
    | str z2 => obtain ⟨t2, rfl⟩ := e2; exact ⟨.str_str z t z2 t2, .str_str z t z2 t2⟩
    | dct _ _ _ => exact absurd (kn_dct k2) (by decide)
    | _ => cases k2
  | tup _ _ => cases k1; omega
  | lst _ _ _ => cases k1; omega
  | dct _ _ _ => have := kn_dct k1; omega
  | scr _ => cases k1
  | «mut» _ => cases k1
  | opq _ _ => cases k1
  | ins _ _ _ _ => cases k1
  | cls _ => cases k1
  | exn0 _ _ _ => cases k1
  | exn1 _ _ _ _ _ _ => cases k1
theorem Rp.refs (I : Inv X pins σ H s) {a : Addr} {d d' : D} {i j : Nat} (r : Rp ⟨X.K, cl⟩ W H (.ref a) d) (r' : Rp ⟨X.K, cl⟩ W H (.ref a) d') (k : kn d = some i) (k' : kn d' = some j) : i = j := by
  have h1 := sv_of I (u := .ref a) r rfl k
  have h2 := sv_of I (u := .ref a) r' rfl k'
  cases h1 with
  | lst h1 =>
    obtain ⟨o, e1, c1, _⟩ := h1
    cases h2 with
    | lst _ => rfl
    | tup h2 => obtain ⟨o2, e2, c2, _⟩ := h2; rw [e1] at e2; cases e2; rw [c1] at c2; simp at c2
    | dct h2 => obtain ⟨es, n, dd, sl, e2⟩ := h2; rw [e1] at e2; cases e2; simp at c1
  | tup h1 =>
    obtain ⟨o, e1, c1, _⟩ := h1
    cases h2 with
    | tup _ => rfl
    | lst h2 => obtain ⟨o2, e2, c2, _⟩ := h2; rw [e1] at e2; cases e2; rw [c1] at c2; simp at c2
    | dct h2 => obtain ⟨es, n, dd, sl, e2⟩ := h2; rw [e1] at e2; cases e2; simp at c1
  | dct h1 =>
    obtain ⟨es, n, dd, sl, e1⟩ := h1
    cases h2 with
    | dct _ => rfl
    | lst h2 => obtain ⟨o2, e2, c2, _⟩ := h2; rw [e1] at e2; cases e2; simp at c2
    | tup h2 => obtain ⟨o2, e2, c2, _⟩ := h2; rw [e1] at e2; cases e2; simp at c2
/-- the same value is equal to itself -/
theorem allN_self {f : D → D → Option Bool} (hf : ∀ {v d d' b}, Rp ⟨X.K, cl⟩ W H v d → Rp ⟨X.K, cl⟩ W H v d' → f d d' = some b → b = true) : ∀ {vs : List V} {xs ys : List D} {b : Bool}, RpA ⟨X.K, cl⟩ W H vs xs → RpA ⟨X.K, cl⟩ W H vs ys → allN f xs ys = some b → b = true ∧ xs.length = ys.length
  | _, _, _, _, .nil, .nil, e => by cases e; exact ⟨rfl, rfl⟩
  | _, x :: xs, y :: ys, b, .cons r t, .cons r' t', e => by
    unfold allN at e
    cases q1 : f x y with
    | none => rw [q1] at e; cases e
    | some a =>
      cases q2 : allN f xs ys with
      | none => rw [q1, q2] at e; cases e
      | some c =>
        rw [q1, q2] at e
        cases e
        obtain ⟨h1, h2⟩ := allN_self hf t t' q2
        rw [hf r r' q1, h1]
        exact ⟨rfl, by rw [List.length_cons, List.length_cons, h2]⟩
theorem eqB_self (I : Inv X pins σ H s) {f : D → D → Option Bool} {deep : Bool} (hf : deep = true → ∀ {v d d' b}, Rp ⟨X.K, cl⟩ W H v d → Rp ⟨X.K, cl⟩ W H v d' → f d d' = some b → b = true) {v : V} {d d' : D} {b : Bool} (r : Rp ⟨X.K, cl⟩ W H v d) (r' : Rp ⟨X.K, cl⟩ W H v d') (e : eqB f deep d d' = some b) : b = true := by
  unfold eqB at e
  cases k1 : kn d with
  | none => rw [k1] at e; cases e
  | some i =>
    cases k2 : kn d' with
    | none => rw [k1, k2] at e; cases e
    | some j =>
      rw [k1, k2] at e
      dsimp only at e
      have ij : i = j := by
        cases v with
        | ref a => exact r.refs I r' k1 k2
        | _ => cases r <;> cases r' <;> exact Option.some.inj (k1.symm.trans k2)
      rw [if_pos ij] at e
      cases r with
      | tup ha ra =>
        cases r' with
        | tup ha' ra' =>
          cases deep with
          | false => cases e
          | true =>
            dsimp only at e
            rw [if_pos rfl] at e
            obtain ⟨c, q, eq⟩ := Option.map_eq_some_iff.mp e
            have es := I.tuple_inj ha.sq ha'.sq
            subst es
            obtain ⟨h1, h2⟩ := allN_self (hf rfl) ra ra' q
            rw [← eq, h1, decide_eq_true h2]
            rfl
        | _ => first | (cases k1; cases k2; omega) | (cases k2; done) | (cases k1; have := kn_dct k2; omega)
      | lst ha nb ra =>
        cases r' with
        | lst ha' nb' ra' =>
          cases deep with
          | false => cases e
          | true =>
            dsimp only at e
            rw [if_pos rfl] at e
            rw [ha] at ha'
            cases ha'
            split at e
            · exact (allN_self (hf rfl) ra ra' e).1
            · rename_i hne
              exact absurd (ra.length.symm.trans ra'.length) hne
        | _ => first | (cases k1; cases k2; omega) | (cases k2; done) | (cases k1; have := kn_dct k2; omega)
      | dct ha nb rk =>
        cases r' with
        | dct _ _ _ =>
          cases deep with
          | false => cases e
          | true => dsimp only at e; rw [if_pos rfl] at e; cases e; rfl
        | _ => have h5 := kn_dct k1; first | (cases k2; omega) | (cases k2; done)
      | non => cases r' <;> first | (cases e; rfl) | cases k2
      | bl c => cases r' <;> first | (cases e; exact beq_self_eq_true c) | cases k2
      | int c => cases r' <;> first | (cases e; exact beq_self_eq_true c) | cases k2
      | str c => cases r' <;> first | (cases e; exact beq_self_eq_true c) | cases k2
      | _ => cases k1
def eAt (f : D → D → Option Bool) (xs ys : List D) (j : Nat) : Bool := match xs[j]?, ys[j]? with
  | some x, some y => (f x y).getD false
  | _, _ => false
theorem allN_range {f : D → D → Option Bool} : ∀ {xs ys : List D} {b : Bool}, allN f xs ys = some b → b = (List.range (min xs.length ys.length)).all (eAt f xs ys) ∧ ∀ (j : Nat) (x y : D), xs[j]? = some x → ys[j]? = some y → f x y = some (eAt f xs ys j)
  | [], ys, b, e => by
    have e : some true = some b := by cases ys <;> exact e
    cases e
    exact ⟨by simp, fun j x y h _ => by simp at h⟩
  | x :: xs, [], b, e => by
    have e : some true = some b := e
    cases e
    exact ⟨by simp, fun j x y _ h => by simp at h⟩
  | x :: xs, y :: ys, b, e => by
    unfold allN at e
    cases q1 : f x y with
    | none => rw [q1] at e; cases e
    | some a =>
      cases q2 : allN f xs ys with
      | none => rw [q1, q2] at e; cases e
      | some c =>
        rw [q1, q2] at e
        cases e
        obtain ⟨h1, h2⟩ := allN_range q2
        have e0 : eAt f (x :: xs) (y :: ys) 0 = a := by unfold eAt; simp [q1]
        have es : (eAt f (x :: xs) (y :: ys)) ∘ Nat.succ = eAt f xs ys := by funext j; unfold eAt; simp
        refine ⟨?_, fun j x' y' h3 h4 => ?_⟩
        · rw [List.length_cons, List.length_cons, Nat.succ_min_succ, List.range_succ_eq_map, List.all_cons, e0, List.all_map, es, ← h1]
        · cases j with
          | zero => simp at h3 h4; subst h3 h4; rw [e0]; exact q1
          | succ j =>
            have := h2 j x' y' (by simpa using h3) (by simpa using h4)
            rw [this]
            exact congrArg some (congrFun es j).symm
/-- the children of two rows -/
theorem kids {n : Nat} {f : D → D → Option Bool} (hf : ∀ {v w d d' u1 u2 b}, Rp ⟨X.K, cl⟩ W H v d → Rp ⟨X.K, cl⟩ W H w d' → RelV v u1 → RelV w u2 → f d d' = some b → PySem.W.EqTree X.prog X.w s n u1 u2 b)
    {vs ws : List V} {xs ys : List D} {us ts : List Value} {b : Bool} (r1 : RpA ⟨X.K, cl⟩ W H vs xs) (r2 : RpA ⟨X.K, cl⟩ W H ws ys) (e1 : Vals vs us) (e2 : Vals ws ts) (e : allN f xs ys = some b) :
    b = (List.range (min us.toArray.size ts.toArray.size)).all (eAt f xs ys) ∧ ∀ j (h1 : j < us.toArray.size) (h2 : j < ts.toArray.size), PySem.W.EqTree X.prog X.w s n us.toArray[j] ts.toArray[j] (eAt f xs ys j) := by
  obtain ⟨q1, q2⟩ := allN_range e
  have l1 : us.length = xs.length := by rw [← e1.length]; exact r1.length
  have l2 : ts.length = ys.length := by rw [← e2.length]; exact r2.length
  refine ⟨by rw [List.size_toArray, List.size_toArray, l1, l2]; exact q1, fun j h1 h2 => ?_⟩
  rw [List.size_toArray] at h1 h2
  have hx : xs[j]? = some xs[j] := by simp [l1 ▸ h1]
  have hy : ys[j]? = some ys[j] := by simp [l2 ▸ h2]
  obtain ⟨v, hv, rv⟩ := r1.get hx
  obtain ⟨w, hw, rw'⟩ := r2.get hy
  obtain ⟨u, hu, ru⟩ := e1.get hv
  obtain ⟨t, ht, rt⟩ := e2.get hw
  have eu : us.toArray[j]'(by rw [List.size_toArray]; exact h1) = u := by
    have := List.getElem?_eq_getElem h1
    rw [hu] at this
    simpa using (Option.some.inj this).symm
  have et : ts.toArray[j]'(by rw [List.size_toArray]; exact h2) = t := by
    have := List.getElem?_eq_getElem h2
    rw [ht] at this
    simpa using (Option.some.inj this).symm
  rw [eu, et]
  exact hf rv rw' ru rt (q2 j _ _ hx hy)
theorem eqB_cases {f : D → D → Option Bool} {deep : Bool} {d d' : D} {b : Bool} (e : eqB f deep d d' = some b) : ∃ i j, kn d = some i ∧ kn d' = some j ∧ ((i ≠ j ∧ b = false) ∨ (i = j ∧ i ≤ 2 ∧ b = eqS d d') ∨ (deep = true ∧ ((∃ xs ys, d = .lst xs ∧ d' = .lst ys ∧ ((xs.length = ys.length ∧ allN f xs ys = some b) ∨ (xs.length ≠ ys.length ∧ b = false))) ∨
    (∃ xs ys c, d = .tup xs ∧ d' = .tup ys ∧ allN f xs ys = some c ∧ b = (c && decide (xs.length = ys.length))) ∨ (d = .dct [] ∧ d' = .dct [] ∧ b = true)))) := by
  unfold eqB at e
  cases k1 : kn d with
  | none => rw [k1] at e; cases e
  | some i =>
    cases k2 : kn d' with
    | none => rw [k1, k2] at e; cases e
    | some j =>
      rw [k1, k2] at e
      dsimp only at e
      refine ⟨i, j, rfl, rfl, ?_⟩
      by_cases ij : i = j
      · rw [if_pos ij] at e
        subst ij
        cases d with
        | lst xs =>
          cases k1
          cases d' with
          | lst ys =>
            dsimp only at e
            cases deep with
            | false => cases e
            | true =>
              rw [if_pos rfl] at e
              refine .inr (.inr ⟨rfl, .inl ⟨xs, ys, rfl, rfl, ?_⟩⟩)
              split at e
              · exact .inl ⟨‹_›, e⟩
              · cases e; exact .inr ⟨‹_›, rfl⟩
          | dct kvs => exact absurd (kn_dct k2) (by decide)
          | _ => cases k2
        | tup xs =>
          cases k1
          cases d' with
          | tup ys =>
            dsimp only at e
            cases deep with
            | false => cases e
            | true =>
              rw [if_pos rfl] at e
              obtain ⟨c, q, eq⟩ := Option.map_eq_some_iff.mp e
              exact .inr (.inr ⟨rfl, .inr (.inl ⟨xs, ys, c, rfl, rfl, q, eq.symm⟩)⟩)
          | dct kvs => exact absurd (kn_dct k2) (by decide)
          | _ => cases k2
        | dct kvs =>
          have h5 := kn_dct k1
          subst h5
          cases kvs with
          | cons _ _ => cases k1
          | nil =>
            cases d' with
            | dct kvs' =>
              cases kvs' with
              | cons _ _ => cases k2
              | nil =>
                dsimp only at e
                cases deep with
                | false => cases e
                | true => rw [if_pos rfl] at e; cases e; exact .inr (.inr ⟨rfl, .inr (.inr ⟨rfl, rfl, rfl⟩)⟩)
            | _ => cases k2
        | non => cases k1; cases d' <;> first | (cases e; exact .inr (.inl ⟨rfl, by decide, rfl⟩)) | cases k2 | exact absurd (kn_dct k2) (by decide)
        | bl c => cases k1; cases d' <;> first | (cases e; exact .inr (.inl ⟨rfl, by decide, rfl⟩)) | cases k2 | exact absurd (kn_dct k2) (by decide)
        | int c => cases k1; cases d' <;> first | (cases e; exact .inr (.inl ⟨rfl, by decide, rfl⟩)) | cases k2 | exact absurd (kn_dct k2) (by decide)
        | str c => cases k1; cases d' <;> first | (cases e; exact .inr (.inl ⟨rfl, by decide, rfl⟩)) | cases k2 | exact absurd (kn_dct k2) (by decide)
        | _ => cases k1
      · rw [if_neg ij] at e
        cases e
        exact .inl ⟨ij, rfl⟩
end
end DN
/-! DO7: the rule of == by eqN. -/
namespace DN
open PySem PySem.Spec PyProof.Rows L2 SeqAt
section
variable {X : Cx} {pins : List (Addr × Obj)} {σ : L2.St} {H : Hp} {s : Shared} {cl : Cls_} {W : Wd}
theorem lstV (I : Inv X pins σ H s) {a : Addr} {vs : List V} {ds : List D} (h : H a = some (.lst vs)) (r : RpA ⟨X.K, cl⟩ W H vs ds) : ∃ its : List Value, Vals vs its ∧ s.heap.IsList a its.toArray ∧ its.length = ds.length := by
  obtain ⟨its, rv, ⟨o, n, ho, hc, _, hd⟩, _⟩ := I.list (SqL.of h)
  exact ⟨its, rv, ⟨o, ho, hc, n, hd⟩, by rw [← rv.length]; exact r.length⟩
theorem tupV (I : Inv X pins σ H s) {a : Addr} {vs : List V} {ds : List D} (h : TupAt ⟨X.K, cl⟩ W H a vs) (r : RpA ⟨X.K, cl⟩ W H vs ds) : ∃ its : List Value, Vals vs its ∧ s.heap.IsTuple a its.toArray ∧ its.length = ds.length := by
  obtain ⟨its, rv, ⟨o, ho, hc, n, hd⟩, _⟩ := I.tuple h.sq
  exact ⟨its, rv, ⟨o, ho, hc, n, hd⟩, by rw [← rv.length]; exact r.length⟩
theorem eqB_tree (I : Inv X pins σ H s) {n : Nat} {f : D → D → Option Bool} {deep : Bool} (hf : deep = true → ∀ {v w d d' u1 u2 b}, Rp ⟨X.K, cl⟩ W H v d → Rp ⟨X.K, cl⟩ W H w d' → RelV v u1 → RelV w u2 → f d d' = some b → PySem.W.EqTree X.prog X.w s n u1 u2 b)
    (hs : deep = true → ∀ {v d d' b}, Rp ⟨X.K, cl⟩ W H v d → Rp ⟨X.K, cl⟩ W H v d' → f d d' = some b → b = true) {v w : V} {d d' : D} {u1 u2 : Value} {b : Bool} (r : Rp ⟨X.K, cl⟩ W H v d) (r' : Rp ⟨X.K, cl⟩ W H w d') (e1 : RelV v u1) (e2 : RelV w u2) (e : eqB f deep d d' = some b) :
    PySem.W.EqTree X.prog X.w s (n + 1) u1 u2 b := by
  have self := fun (z : v = w) => eqB_self (cl := cl) (W := W) I hs r (by rw [z]; exact r') e
  obtain ⟨i, j, k1, k2, h⟩ := eqB_cases e
  rcases h with ⟨ne, rfl⟩ | ⟨rfl, hi, rfl⟩ | ⟨dp, h⟩
  · exact .leaf fun A hu => (sv_unlike (by omega) (sv_of I r e1 k1) (sv_of I r' e2 k2) ne).2
  · exact .leaf fun A hu => (scal_eq r r' e1 e2 k1 k2 hi).2
  · rcases h with ⟨xs, ys, rfl, rfl, h⟩ | ⟨xs, ys, c, rfl, rfl, q, hb⟩ | ⟨rfl, rfl, rfl⟩
    · cases r with
      | @lst a vs _ ha nb ra =>
        cases r' with
        | @lst a' ws _ ha' nb' ra' =>
          cases e1; cases e2
          by_cases ha2 : a = a'
          · subst ha2
            rw [self rfl]
            exact .same
          · obtain ⟨us, q1, q2, q3⟩ := lstV I ha ra
            obtain ⟨ts, p1, p2, p3⟩ := lstV I ha' ra'
            rcases h with ⟨hl, hq⟩ | ⟨hl, rfl⟩
            · obtain ⟨hb, kk⟩ := kids (hf dp) ra ra' q1 p1 hq
              have hsz : us.toArray.size = ts.toArray.size := by rw [List.size_toArray, List.size_toArray]; omega
              rw [hb, ← hsz, Nat.min_self]
              exact .lists ha2 q2 p2 hsz kk
            · exact .listsLen ha2 q2 p2 (bne_iff_ne.mpr (by rw [List.size_toArray, List.size_toArray]; omega))
    · cases r with
      | @tup a vs _ ha ra =>
        cases r' with
        | @tup a' ws _ ha' ra' =>
          cases e1; cases e2
          by_cases ha2 : a = a'
          · subst ha2
            rw [self rfl]
            exact .same
          · obtain ⟨us, q1, q2, q3⟩ := tupV I ha ra
            obtain ⟨ts, p1, p2, p3⟩ := tupV I ha' ra'
            obtain ⟨hc, kk⟩ := kids (hf dp) ra ra' q1 p1 q
            have ek : (us.toArray.size == ts.toArray.size) = decide (xs.length = ys.length) := by rw [List.size_toArray, List.size_toArray, q3, p3]; rfl
            rw [hb, hc, ← ek]
            exact .tuples ha2 q2 p2 kk
    · cases r with
      | @dct a _ _ ha nb rk =>
        cases r' with
        | @dct a' _ _ ha' nb' rk' =>
          cases e1; cases e2; cases rk; cases rk'
          by_cases ha2 : a = a'
          · subst ha2; exact .same
          · obtain ⟨_, s1, d1⟩ := dctV I ha
            obtain ⟨_, s2, d2⟩ := dctV I ha'
            exact .dicts (e := fun _ => true) ha2 s1 s2 d1 d2 (fun k v y hm _ => by cases hm)
theorem eqN_self (I : Inv X pins σ H s) : ∀ (n : Nat) {v : V} {d d' : D} {b : Bool}, Rp ⟨X.K, cl⟩ W H v d → Rp ⟨X.K, cl⟩ W H v d' → eqN n d d' = some b → b = true
  | 0, _, _, _, _, r, r', e => eqB_self I (f := fun _ _ => none) (deep := false) (fun z => (nomatch z)) r r' e
  | n + 1, _, _, _, _, r, r', e => eqB_self I (fun _ => eqN_self I n) r r' e
theorem eqN_tree (I : Inv X pins σ H s) : ∀ (n : Nat) {v w : V} {d d' : D} {u1 u2 : Value} {b : Bool}, Rp ⟨X.K, cl⟩ W H v d → Rp ⟨X.K, cl⟩ W H w d' → RelV v u1 → RelV w u2 → eqN n d d' = some b → PySem.W.EqTree X.prog X.w s (n + 1) u1 u2 b
  | 0, _, _, _, _, _, _, _, r, r', e1, e2, e => eqB_tree I (f := fun _ _ => none) (deep := false) (fun z => (nomatch z)) (fun z => (nomatch z)) r r' e1 e2 e
  | n + 1, _, _, _, _, _, _, _, r, r', e1, e2, e => eqB_tree I (fun _ => eqN_tree I n) (fun _ => eqN_self I n) r r' e1 e2 e
def rEqN (K : PySem.W.Frag) : R2 := fun x y H Q => ∃ (cl : Cls_) (W : Wd) (dx dy : D) (b : Bool), Rp ⟨K, cl⟩ W H x dx ∧ Rp ⟨K, cl⟩ W H y dy ∧ eqN 50 dx dy = some b ∧ Q (.bl b) H
theorem op_eqN (hu : X.A.units + 64 < cLine) : OpR X (compareOp .Eq) (rEqN X.K) := by
  intro pins s σ H x y u1 u2 Q I e1 e2 ⟨cl, W, dx, dy, b, r, r', e, q⟩
  have e : eqB (eqN 49) true dx dy = some b := e
  obtain ⟨i, j, k1, k2, h⟩ := eqB_cases e
  rcases h with ⟨ne, rfl⟩ | ⟨rfl, hi, rfl⟩ | ⟨dp, h⟩
  · exact (sv_unlike (by omega) (sv_of I r e1 k1) (sv_of I r' e2 k2) ne).1 _ _ _ _ ⟨.bl false, H, I, rfl, q⟩
  · exact (scal_eq r r' e1 e2 k1 k2 hi).1 _ _ _ _ ⟨.bl _, H, I, rfl, q⟩
  · rcases h with ⟨xs, ys, rfl, rfl, h⟩ | ⟨xs, ys, c, rfl, rfl, qc, hb⟩ | ⟨rfl, rfl, rfl⟩
    · cases r with
      | @lst a vs _ ha nb ra =>
        cases r' with
        | @lst a' ws _ ha' nb' ra' =>
          cases e1; cases e2
          obtain ⟨us, q1, q2, q3⟩ := lstV I ha ra
          obtain ⟨ts, p1, p2, p3⟩ := lstV I ha' ra'
          rcases h with ⟨hl, hq⟩ | ⟨hl, rfl⟩
          · obtain ⟨hb, kk⟩ := kids (eqN_tree I 49) ra ra' q1 p1 hq
            have hsz : us.toArray.size = ts.toArray.size := by rw [List.size_toArray, List.size_toArray]; omega
            rw [← hsz, Nat.min_self] at hb
            refine PySem.W.eq_listsT q2 p2 hsz kk (by omega) ⟨.bl b, H, I, ?_, q⟩
            rw [hb]; rfl
          · exact RcAt.lists_lengths q2 p2 (bne_iff_ne.mpr (by rw [List.size_toArray, List.size_toArray]; omega)) (by omega) _ _ _ _ ⟨.bl false, H, I, rfl, q⟩
    · cases r with
      | @tup a vs _ ha ra =>
        cases r' with
        | @tup a' ws _ ha' ra' =>
          cases e1; cases e2
          obtain ⟨us, q1, q2, q3⟩ := tupV I ha ra
          obtain ⟨ts, p1, p2, p3⟩ := tupV I ha' ra'
          obtain ⟨hc, kk⟩ := kids (eqN_tree I 49) ra ra' q1 p1 qc
          have ek : (us.toArray.size == ts.toArray.size) = decide (xs.length = ys.length) := by rw [List.size_toArray, List.size_toArray, q3, p3]; rfl
          refine PySem.W.eq_tuplesT q2 p2 kk (by omega) ⟨.bl b, H, I, ?_, q⟩
          rw [hb, hc, ← ek]; rfl
    · cases r with
      | @dct a _ _ ha nb rk =>
        cases r' with
        | @dct a' _ _ ha' nb' rk' =>
          cases e1; cases e2; cases rk; cases rk'
          obtain ⟨_, s1, d1⟩ := dctV I ha
          obtain ⟨_, s2, d2⟩ := dctV I ha'
          exact PySem.W.eq_dictsT (n := 1) (e := fun _ => true) s1 s2 d1 d2 (fun k v y hm _ => by cases hm) (by omega) ⟨.bl true, H, I, rfl, q⟩
end
def gEqN (x y : D) : M D := match eqN 50 x y with
  | some b => M.pure (.bl b)
  | none => M.bad
theorem od_eqN {K : PySem.W.Frag} {cl : Cls_} : OpD K cl (rEqN K) gEqN := by
  intro E σ W H S x y dx dy Q w s rx ry h
  unfold gEqN at h
  cases q : eqN 50 dx dy with
  | none => rw [q] at h; exact h.elim
  | some b =>
    rw [q] at h
    exact ⟨cl, W, dx, dy, b, rx, ry, q, Po.val w s h (.bl b)⟩
end DN
/-! DO8: instances of own classes: fields read and stored. -/
namespace DN
open PySem PySem.Spec PyProof.Rows L2
def putD (f : Str) (d : D) : List (Str × D) → List (Str × D)
  | [] => [(f, d)]
  | (g, x) :: r => if g = f then (g, d) :: r else (g, x) :: putD f d r
theorem RpF.put {G : Gx} {W : Wd} {H : Hp} {f : Str} {v : V} {d : D} (r : Rp G W H v d) : ∀ {vs : List (Str × V)} {ds : List (Str × D)}, RpF G W H vs ds → RpF G W H (putF f v vs) (putD f d ds)
  | _, _, .nil => .cons r .nil
  | _, _, @RpF.cons _ _ _ g v0 vs d0 ds r0 t => by
    unfold putF putD
    by_cases e : g = f
    · rw [if_pos e, if_pos e]; exact .cons r t
    · rw [if_neg e, if_neg e]; exact .cons r0 (RpF.put r t)
theorem RpF.len {G : Gx} {W : Wd} {H : Hp} : ∀ {vs : List (Str × V)} {ds : List (Str × D)}, RpF G W H vs ds → vs.length = ds.length
  | _, _, .nil => rfl
  | _, _, .cons _ t => by rw [List.length_cons, List.length_cons, RpF.len t]
/-- classes whose instances have the field f -/
structure FldI (K : PySem.W.Frag) (cl : Cls_) (f : Str) (cs : List Str) : Prop where
  ex : ∀ c, cs.contains c = true → ∃ C, cl.at_ c = some C ∧ Cls K C ∧ NoAttr K C f
def lkD (f : Str) (fs : List (Str × D)) : M D := match fs.lookup f with
  | some d => M.pure d
  | none => M.bad
def gGet (f : Str) (cs : List Str) : D → M D
  | .ins c fs => if cs.contains c = true then lkD f fs else M.bad
  | .mut n => fun S => match S[n]? with
    | some (.ins c fs) => if cs.contains c = true then lkD f fs S else .bad
    | _ => .bad
  | _ => M.bad
section
variable {X : Cx} {cl : Cls_} {E : WX} {a o e : Expr} {fa fo fe : Env → M D} {pos tpos : Pos}
theorem de_get {f : Str} {cs : List Str} (T : FldI X.K cl f cs) (ha : DE X cl E a fa) (hb : attributeBase a f X.env (eval a X.env) = eval a X.env := by rfl) : DE X cl E (.Attribute a f pos) (c1 (gGet f cs) fa) := by
  refine pe_imp (pe_fld ha hb) fun σ H Q h => ?_
  refine tE_bind h fun W0 H0 W1 H1 S1 ρ own v d ev rv hh => ?_
  cases d with
  | ins c ds =>
    obtain ⟨hc, hh⟩ := po_if (m := lkD f ds) hh
    unfold lkD at hh
    cases q : ds.lookup f with
    | none => rw [q] at hh; exact hh.elim
    | some d =>
      rw [q] at hh
      obtain ⟨C', e1, T1, T2⟩ := T.ex c hc
      cases rv with
      | @ins _ a0 C dx fs _ hC ea na r =>
        have hC : cl.at_ c = some C := hC
        rw [hC] at e1
        cases e1
        obtain ⟨v, hv, r2⟩ := r.look q
        exact ⟨a0, _, dx, fs, v, rfl, ea, T1, T2, hv, Po.val ev.wk ev.st hh r2⟩
  | «mut» n =>
    unfold gGet at hh
    dsimp only at hh
    cases qs : S1[n]? with
    | none => rw [qs] at hh; exact hh.elim
    | some cc =>
      rw [qs] at hh
      cases cc with
      | lst _ => exact hh.elim
      | dct _ => exact hh.elim
      | ins c ds =>
        dsimp only at hh
        by_cases hc : cs.contains c = true
        · rw [if_pos hc] at hh
          unfold lkD at hh
          cases q : ds.lookup f with
          | none => rw [q] at hh; exact hh.elim
          | some d =>
            rw [q] at hh
            obtain ⟨C', e1, T1, T2⟩ := T.ex c hc
            obtain ⟨a0, p1, C, dx, vs, hC, ea, r⟩ := ev.st.at_ n _ qs
            have hC : cl.at_ c = some C := hC
            rw [hC] at e1
            cases e1
            cases rv with
            | «mut» p0 =>
              rw [p1] at p0
              cases p0
              obtain ⟨v, hv, r2⟩ := r.look q
              exact ⟨_, _, dx, vs, v, rfl, ea, T1, T2, hv, Po.val ev.wk ev.st hh r2⟩
        · rw [if_neg hc] at hh; exact hh.elim
  | _ => exact hh.elim
def cSetF (fe fo : Env → M D) (f : Str) (cs : List Str) : Sm := fun ρ S => onE (fe ρ S) ρ fun d S1 => onE (fo ρ S1) ρ fun o S2 => match o with
  | .mut n => match S2[n]? with
    | some (.ins c fs) => if cs.contains c = true ∧ fs.length < 1000 then .go .nx ρ (S2.set n (.ins c (putD f d fs))) else .bad
    | _ => .bad
  | _ => .bad
theorem ds_setF {f : Str} {cs : List Str} (T : FldI X.K cl f cs) (ho : DE X cl E o fo) (he : DE X cl E e fe) (hs : swapsWith e (some (.Attribute o f tpos)) pos.line X.env = pure false := by rfl) :
    DS X cl E (.Assign [.Attribute o f tpos] e pos) (cSetF fe fo f cs) := by
  refine ps_imp (ps_fld ho he hs) fun Dn σ H ⟨W0, H0, W, S, ρ, own, ev, h⟩ => ⟨W0, H0, W, S, ρ, own, ev, (PoS.onE ev h).imp fun dv S1 W1 H1 l1 w1 s1 h1 v rv => ?_⟩
  have ev1 := ev.mono l1 w1 s1
  refine ⟨W0, H0, W1, S1, ρ, own, ev1, (PoS.onE ev1 h1).imp fun d_o S2 W2 H2 l2 w2 s2 h2 ov rov => ?_⟩
  have ev2 := ev1.mono l2 w2 s2
  have rv2 := rv.mono (l2.lw w1)
  cases d_o with
  | «mut» n =>
    dsimp only at h2
    cases q : S2[n]? with
    | none => rw [q] at h2; exact h2.elim
    | some cc =>
      rw [q] at h2
      cases cc with
      | lst _ => exact h2.elim
      | dct _ => exact h2.elim
      | ins c fs =>
        dsimp only at h2
        by_cases hc : cs.contains c = true ∧ fs.length < 1000
        · rw [if_pos hc] at h2
          obtain ⟨C', e1, T1, T2⟩ := T.ex c hc.1
          obtain ⟨a0, p1, C, dx, vs, hC, ea, r⟩ := s2.at_ n _ q
          have hC' : cl.at_ c = some C := hC
          rw [hC'] at e1
          cases e1
          cases rov with
          | «mut» p0 =>
            rw [p1] at p0
            cases p0
            refine ⟨_, _, dx, vs, rfl, ea, T1, T2, by rw [r.len]; exact hc.2, ?_⟩
            obtain ⟨l4, w4, s4⟩ := put_cell (o := .ins _ dx (putF f v vs)) (c := .ins c (putD f dv fs)) w2 s2 p1 (List.getElem?_eq_some_iff.mp q).1 fun lw => ⟨_, dx, _, hC, upd_same, (r.mono lw).put (rv2.mono lw)⟩
            exact h2 W2 _ σ own (l4.lw w2) (ev2.mono l4 w4 s4)
        · rw [if_neg hc] at h2; exact h2.elim
  | _ => exact h2.elim
end
end DN
/-! DO9: making instances: a cell of the store while __init__ runs, data afterwards. -/
namespace DN
open PySem PySem.Spec PyProof.Rows L2
mutual
def plD : D → Bool
  | .mut _ => false
  | .tup xs => plDs xs
  | .lst xs => plDs xs
  | .dct kvs => plKs kvs
  | .ins _ fs => plFs fs
  | .exn _ fs => plFs fs
  | _ => true
def plDs : List D → Bool
  | [] => true
  | d :: ds => plD d && plDs ds
def plKs : List (D × D) → Bool
  | [] => true
  | (_, d) :: ds => plD d && plKs ds
def plFs : List (Str × D) → Bool
  | [] => true
  | (_, d) :: ds => plD d && plFs ds
end
section
variable {G : Gx} {W W' : Wd} {H : Hp}
theorem LstAt.plain (l : ∀ a, W'.B a → W.B a) {a : Addr} {xs : List V} (h : LstAt G W H a xs) : LstAt G W' H a xs := h.imp (fun ⟨h, nb⟩ => ⟨h, fun q => nb (l a q)⟩) id
theorem TupAt.plain (l : ∀ a, W'.B a → W.B a) {a : Addr} {xs : List V} (h : TupAt G W H a xs) : TupAt G W' H a xs := h.imp (fun ⟨h, nb⟩ => ⟨h, fun q => nb (l a q)⟩) id
theorem and2 {a b : Bool} (h : (a && b) = true) : a = true ∧ b = true := Bool.and_eq_true_iff.mp h
mutual
theorem Rp.plain (l : ∀ a, W'.B a → W.B a) : ∀ {v : V} {d : D}, Rp G W H v d → plD d = true → Rp G W' H v d
  | _, _, .non, _ => .non
  | _, _, .bl b, _ => .bl b
  | _, _, .int i, _ => .int i
  | _, _, .str x, _ => .str x
  | _, _, .tup h r, p => .tup (h.plain l) (RpA.plain l r (by unfold plD at p; exact p))
  | _, _, .lst h nb r, p => .lst h (fun q => nb (l _ q)) (RpA.plain l r (by unfold plD at p; exact p))
  | _, _, .scr h, _ => .scr (h.plain l)
  | _, _, .dct h nb r, p => .dct h (fun q => nb (l _ q)) (RpK.plain l r (by unfold plD at p; exact p))
  | _, _, .mut _, p => by unfold plD at p; cases p
  | _, _, .opq h nb, _ => .opq h (fun q => nb (l _ q))
  | _, _, .cls c, _ => .cls c
  | _, _, .exn0 c h nb, _ => .exn0 c h (fun q => nb (l _ q))
  | _, _, .exn1 c h nb h2 nb2 r, p => .exn1 c h (fun q => nb (l _ q)) h2 (fun q => nb2 (l _ q)) (RpF.plain l r (by unfold plD at p; exact p))
  | _, _, .ins c h nb r, p => .ins c h (fun q => nb (l _ q)) (RpF.plain l r (by unfold plD at p; exact p))
theorem RpA.plain (l : ∀ a, W'.B a → W.B a) : ∀ {vs : List V} {ds : List D}, RpA G W H vs ds → plDs ds = true → RpA G W' H vs ds
  | _, _, .nil, _ => .nil
  | _, _, .cons r t, p => by unfold plDs at p; exact .cons (Rp.plain l r (and2 p).1) (RpA.plain l t (and2 p).2)
theorem RpK.plain (l : ∀ a, W'.B a → W.B a) : ∀ {vs : List (Key × V)} {ds : List (D × D)}, RpK G W H vs ds → plKs ds = true → RpK G W' H vs ds
  | _, _, .nil, _ => .nil
  | _, _, .consI r t, p => by unfold plKs at p; exact .consI (Rp.plain l r (and2 p).1) (RpK.plain l t (and2 p).2)
  | _, _, .consS r t, p => by unfold plKs at p; exact .consS (Rp.plain l r (and2 p).1) (RpK.plain l t (and2 p).2)
theorem RpF.plain (l : ∀ a, W'.B a → W.B a) : ∀ {vs : List (Str × V)} {ds : List (Str × D)}, RpF G W H vs ds → plFs ds = true → RpF G W' H vs ds
  | _, _, .nil, _ => .nil
  | _, _, .cons r t, p => by unfold plFs at p; exact .cons (Rp.plain l r (and2 p).1) (RpF.plain l t (and2 p).2)
end
end
def plC : Cell → Bool
  | .lst xs => plDs xs
  | .dct kvs => plKs kvs
  | .ins _ fs => plFs fs
theorem CellOk.plain {G : Gx} {W W' : Wd} {H : Hp} {a : Addr} {c : Cell} (l : ∀ a, W'.B a → W.B a) (h : CellOk G W H a c) (p : plC c = true) : CellOk G W' H a c := by
  cases c with
  | lst ds => obtain ⟨vs, h, r⟩ := h; exact ⟨vs, h, r.plain l p⟩
  | dct ds => obtain ⟨vs, h, r⟩ := h; exact ⟨vs, h, r.plain l p⟩
  | ins c ds => obtain ⟨C, dx, vs, e, h, r⟩ := h; exact ⟨C, dx, vs, e, h, r.plain l p⟩
/-- the last cell is let go -/
theorem freeze_last {G : Gx} {W W2 : Wd} {H H2 : Hp} {S S2 : Store} {x : Addr} (w : WOk W H) (s : StOk G W H S) (hx : H x = none) (L : Le W H W2 H2) (w2 : WOk W2 H2) (s2 : StOk G W2 H2 S2) (ln : S2.length = S.length + 1) (hp : W2.phi S.length = some x) (pl : S2.all plC = true) :
    ∃ W3, Le W H W3 H2 ∧ WOk W3 H2 ∧ StOk G W3 H2 (S2.take S.length) ∧ (∀ a, W3.B a → W2.B a) ∧ ¬ W3.B x := by
  have hB : ∀ a, (⟨fun m => if m = S.length then none else W2.phi m, fun a => W2.B a ∧ a ≠ x⟩ : Wd).B a → W2.B a := fun a h => h.1
  refine ⟨⟨fun m => if m = S.length then none else W2.phi m, fun a => W2.B a ∧ a ≠ x⟩, ⟨fun m a h => ?_, fun m a h => ?_, fun a h => ⟨L.Bm a h, fun z => w.free hx (by rw [← z]; exact h)⟩, fun a h => L.Bn a h.1, L.kp'⟩, ⟨fun a h => w2.tr a h.1, fun m a h => ?_, fun m m' a h1 h2 => ?_⟩, ⟨fun m c h => ?_, fun m h => ?_, s2.tb⟩, hB, fun h => h.2 rfl⟩
  · have ne : m ≠ S.length := fun e => by subst e; rw [s.top _ (Nat.le_refl _)] at h; cases h
    show (if m = S.length then none else W2.phi m) = some a
    rw [if_neg ne]
    exact L.ph m a h
  · have h : (if m = S.length then none else W2.phi m) = some a := h
    by_cases e : m = S.length
    · rw [if_pos e] at h; cases h
    · rw [if_neg e] at h; exact L.ps m a h
  · have h : (if m = S.length then none else W2.phi m) = some a := h
    by_cases e : m = S.length
    · rw [if_pos e] at h; cases h
    · rw [if_neg e] at h
      exact ⟨w2.rg m a h, fun z => e (w2.ij m S.length a h (by rw [z]; exact hp))⟩
  · have h1 : (if m = S.length then none else W2.phi m) = some a := h1
    have h2 : (if m' = S.length then none else W2.phi m') = some a := h2
    by_cases e : m = S.length
    · rw [if_pos e] at h1; cases h1
    · by_cases e' : m' = S.length
      · rw [if_pos e'] at h2; cases h2
      · rw [if_neg e] at h1; rw [if_neg e'] at h2; exact w2.ij m m' a h1 h2
  · have hl : m < S.length := by
      have := (List.getElem?_eq_some_iff.mp h).1
      rw [List.length_take] at this
      omega
    rw [List.getElem?_take_of_lt hl] at h
    obtain ⟨a, h1, h2⟩ := s2.at_ m c h
    refine ⟨a, ?_, h2.plain hB (List.all_eq_true.mp pl c (List.mem_of_getElem? h))⟩
    show (if m = S.length then none else W2.phi m) = some a
    rw [if_neg (by omega)]
    exact h1
  · rw [List.length_take] at h
    show (if m = S.length then none else W2.phi m) = none
    by_cases e : m = S.length
    · rw [if_pos e]
    · rw [if_neg e]
      exact s2.top m (by omega)
/-- C(..) -/
def gMake (c : Str) (F : List D → M D) : List D → M D := fun ds S => match F (.mut S.length :: ds) (S ++ [.ins c []]) with
  | .ok .non S' => if S'.length = S.length + 1 ∧ S'.all plC = true then (match S'[S.length]? with
      | some (.ins c' fs) => if c' = c then .ok (.ins c fs) (S'.take S.length) else .bad
      | _ => .bad) else .bad
  | .ok _ _ => .bad
  | .exc c0 fs S' => if S'.length = S.length + 1 ∧ S'.all plC = true ∧ fs.isEmpty = true then .exc c0 fs (S'.take S.length) else .bad
  | .bad => .bad
end DN
/-! DO10: calls of classes: C(..), cls(.., *xs); defs with *xs. -/
namespace DN
open PySem PySem.Spec PyProof.Rows L2
/-- what a positional promise says, by data -/
def spN (G : Gx) (F : List D → M D) : Sp := fun vs H Q E => ∃ W S ds, WOk W H ∧ StOk G W H S ∧ RpA G W H vs ds ∧ Po G (fun c d _ H => E c d H) [] W H (F ds S) (RV G Q)
abbrev FnN (P : Program) (w : World) (K : PySem.W.Frag) (mg : Str → Option Value) (base : Heap) (cl : Cls_) (k : Nat) (f : Addr) (F : List D → M D) : Prop := FnR P w K mg base (L2.CX P w) k f (spN ⟨K, cl⟩ F)
/-- the rest of the arguments as a tuple -/
def starF (n : Nat) (F : List D → M D) : List D → M D := fun ds => if n ≤ ds.length ∧ ds.length ≤ 16777216 then F (ds.take n ++ [.tup (ds.drop n)]) else M.bad
section
variable {P : Program} {w : World} {K : PySem.W.Frag} {mg : Str → Option Value} {base : Heap} {cl : Cls_}
/-- a promise by binding, as one by position -/
theorem FnD.toN {k : Nat} {f : Addr} {fd : FuncData} {ps : List Str} {F : List D → M D} (FF : FnD P w K mg base cl k f fd ps F) (hb : Binds K fd ps []) : FnN P w K mg base cl k f (fun ds => if ds.length = ps.length then F ds else M.bad) := by
  intro A outer s H us vs Q E hr e0 r ⟨W, S, ds, w0, s0, ra, h⟩
  obtain ⟨c, h⟩ := po_if h
  have KX : K.In s.heap := e0.mod.kin.keeps fun b o e => (e0.bs b o e).1
  have hl : us.length = ps.length := by rw [← r.length]; exact ra.length.trans c
  have hl2 : (us ++ []).length = ps.length := by rw [List.append_nil]; exact hl
  have hb2 := hb s us KX hl2
  rw [List.append_nil] at hb2
  exact FF.run A outer s H ⟨us, []⟩ us vs Q E hr e0 hb2 r ⟨W, S, ds, w0, s0, ra, c, h⟩
/-- def f(a, .., *v) -/
theorem fn_Dstar {k : Nat} {f : Addr} {name qual : Str} {st : Stmt} {dV kV doc pm cdv ct oc : Value} {an od : Option Addr} {osl : Array (Option Value)} {N ps : List Str} {pv : Str} {body : Sm}
    (lk : K.lookup f = some ⟨oc, od, .func (PySem.W.fnOf name qual (defArgs st) (defBody st) (defScope st) dV kV doc pm an cdv ct), osl⟩) (hcd : PySem.W.codeIn K cdv qual = true) (S : FnScope N (ps ++ [pv]) (defScope st))
    (hb : ∀ us rest : List Value, us.length = ps.length → bindArgs (PySem.W.fnOf name qual (defArgs st) (defBody st) (defScope st) dV kV doc pm an cdv ct) ⟨us ++ rest, []⟩ = (newTuple rest >>= fun t => pure (ps.zip us ++ [(pv, t)])))
    (hbody : ∀ (A : Around) (outer : List PySem.Env) (s : Shared) (H : Hp) (E : XK), Room k (A.deeper (envOfC qual (defScope st) s.heap.objs.size f cdv)) → DSs (cxD P w K mg base N qual st f cdv A outer s H E) cl (fun c d _ H => E c d H) (defBody st) body) :
    FnN P w K mg base cl (k + 1) f (starF ps.length (runF (ps.length + 1) N.length body)) := by
  have F := StX.fn_star (CX := L2.CX P w) (w := w) (mg := mg) (base := base) (k := k) (N := N) (sp := spD ⟨K, cl⟩ (ps.length + 1) (runF (ps.length + 1) N.length body)) lk hcd S StX.cxUp hb fun A outer s H vs Q E hr ⟨W, S0, ds, w0, s0, r, e, h⟩ => ⟨_, hbody A outer s H E hr, by
    refine ⟨W, H, W, S0, _, _, ev_start N w0 s0 r rfl, ?_⟩
    have h : Po ⟨K, cl⟩ (fun c d _ H => E c d H) [] W H (runF (ps.length + 1) N.length body ds S0) (RV ⟨K, cl⟩ Q) := h
    unfold runF at h
    rw [if_pos e, ← e] at h
    cases q : body (ds.map Sl.val ++ List.replicate (N.length - ds.length) Sl.un) S0 with
    | bad => rw [q] at h; exact h.elim
    | exc c fs ρ' S' =>
      rw [q] at h
      exact fun W' H' σ' own' cls dd l' e' x => h W' H' cls dd e'.le e'.wk e'.st x
    | go fl ρ' S' =>
      rw [q] at h
      intro W' H' σ' own' l' e'
      cases fl with
      | nx => exact h W' H' e'.le e'.wk e'.st _ .non
      | rt d => exact fun v rv => h W' H' e'.le e'.wk e'.st v rv
      | bk => exact h.elim
      | ct => exact h.elim⟩
  refine F.imp fun vs H Q E ⟨W, S0, ds, w0, s0, r, h⟩ => ?_
  obtain ⟨⟨c1, c2⟩, h⟩ := po_if h
  have lv : vs.length = ds.length := r.length
  refine ⟨vs.take ps.length, vs.drop ps.length, (List.take_append_drop _ _).symm, by rw [List.length_take]; omega, by rw [List.length_drop, sizeLine_eq]; omega, fun p hp => ?_⟩
  have sm := Same.new (o := HO.tup (vs.drop ps.length)) hp
  have h2 := Po.step w0 (Le.same sm) h
  refine ⟨W, S0, _, w0.same sm, s0.same sm, ((r.take ps.length).mono (Lw.same sm)).app (.cons (Rp.newTup w0 hp (r.drop ps.length)) .nil), ?_, h2⟩
  rw [List.length_append, List.length_take, List.length_singleton]
  omega
end
/-! ### calls of a class -/
structure MkI (P : Program) (w : World) (K : PySem.W.Frag) (mg : Str → Option Value) (base : Heap) (cl : Cls_) (c : Str) (k : Nat) (F : List D → M D) : Prop where
  ex : ∃ C f, Mk K C f ∧ FnN P w K mg base cl k f F ∧ cl.at_ c = some C ∧ mg c = some (.ref C)
section
variable {X : Cx} {cl : Cls_} {E : WX} {k : Nat} {c x : Str} {p pos : Pos} {e : Expr} {es : List Expr} {fs : Env → M (List D)} {F : List D → M D}
theorem run_make1 {C f : Addr} {pins : List (Addr × Obj)} {σ : L2.St} {H : Hp} {s : Shared} {Q : VK} {us : List Value} {vs : List V} {ds : List D} {W : Wd} {S : Store} (M0 : Mk X.K C f) (FF : FnN X.prog X.w X.K X.mg X.base cl k f F) (hr : Room (k + 1) X.A) (hc : cl.at_ c = some C) (tk : Takes X E)
    (I : Inv X pins σ H s) (r : Vals vs us) (wk : WOk W H) (st : StOk ⟨X.K, cl⟩ W H S) (ra : RpA ⟨X.K, cl⟩ W H vs ds) (h : Po ⟨X.K, cl⟩ E σ W H (gMake c F ds S) (RV ⟨X.K, cl⟩ Q)) :
    wpAny (model X.prog X.w) X.A (call (.ref C) us) (EP X pins σ Q) X.xe s := by
  have I2 := Inv.made (C := C) I
  have hd : H s.heap.objs.size = none := I.hok.fresh (Nat.le_refl _)
  have hx : H (s.heap.objs.size + 1) = none := I.hok.fresh (Nat.le_succ _)
  have hx' : upd H s.heap.objs.size (.own (s.heap.objs.size + 1)) (s.heap.objs.size + 1) = none := by rw [upd_ne (Nat.succ_ne_self _)]; exact hx
  have sm := Same.new (o := HO.own (s.heap.objs.size + 1)) hd
  obtain ⟨W1, l1, w1, s1, ph⟩ := new_cell (o := .ins C s.heap.objs.size []) (c := .ins c []) (wk.same sm) (st.same sm) hx' fun W' lw => ⟨C, s.heap.objs.size, [], hc, upd_same, .nil⟩
  have L1 := (Le.same sm).trans l1 wk w1
  have r2 : Vals (V.ref (s.heap.objs.size + 1) :: vs) (Value.ref (s.heap.objs.size + 1) :: us) := .cons rfl r
  have ra2 : RpA ⟨X.K, cl⟩ W1 _ (V.ref (s.heap.objs.size + 1) :: vs) (.mut S.length :: ds) := .cons (.mut ph) (ra.mono (L1.lw wk))
  have po : Po ⟨X.K, cl⟩ (fun c d _ H => WE E σ c d H) [] W1 (upd (upd H s.heap.objs.size (.own (s.heap.objs.size + 1))) (s.heap.objs.size + 1) (.ins C s.heap.objs.size [])) (F (.mut S.length :: ds) (S ++ [.ins c []]))
      (RV ⟨X.K, cl⟩ fun v H2 => v = .non ∧ Q (.ref (s.heap.objs.size + 1)) H2) := by
    unfold gMake at h
    cases q : F (.mut S.length :: ds) (S ++ [.ins c []]) with
    | bad => rw [q] at h; exact h.elim
    | exc c0 fs0 S2 =>
      rw [q] at h
      dsimp only at h
      by_cases cd : S2.length = S.length + 1 ∧ S2.all plC = true ∧ fs0.isEmpty = true
      · rw [if_pos cd] at h
        obtain ⟨cd1, cd2, cd3⟩ := cd
        intro W2 H2 cls dd l2 w2 s2 ⟨C0, e1, e2, e3⟩
        obtain ⟨W3, L3, w3, s3, hB, nB⟩ := freeze_last wk st hx (L1.trans l2 wk w2) w2 s2 cd1 (l2.ph _ _ ph) cd2
        refine h W3 H2 cls dd L3 w3 s3 ⟨C0, e1, e2, ?_⟩
        rcases e3 with e3 | ⟨e3, _⟩
        · exact .inl e3
        · exact absurd (List.isEmpty_iff.mp cd3) e3
      · rw [if_neg cd] at h; exact h.elim
    | ok d0 S2 =>
      rw [q] at h
      cases d0 with
      | non =>
        dsimp only at h
        by_cases cd : S2.length = S.length + 1 ∧ S2.all plC = true
        · rw [if_pos cd] at h
          cases qc : S2[S.length]? with
          | none => rw [qc] at h; exact h.elim
          | some cc =>
            rw [qc] at h
            cases cc with
            | lst _ => exact h.elim
            | dct _ => exact h.elim
            | ins c' fs' =>
              dsimp only at h
              by_cases ec : c' = c
              · rw [if_pos ec] at h
                subst ec
                intro W2 H2 l2 w2 s2 v rv
                cases rv
                obtain ⟨W3, L3, w3, s3, hB, nB⟩ := freeze_last wk st hx (L1.trans l2 wk w2) w2 s2 cd.1 (l2.ph _ _ ph) cd.2
                obtain ⟨a, p1, C0, dx, vs0, e1, e2, e3⟩ := s2.at_ _ _ qc
                rw [l2.ph _ _ ph] at p1
                cases p1
                refine ⟨rfl, h W3 H2 L3 w3 s3 _ (.ins e1 e2 nB (e3.plain hB ?_))⟩
                have := List.all_eq_true.mp cd.2 _ (List.mem_of_getElem? qc)
                exact this
              · rw [if_neg ec] at h; exact h.elim
        · rw [if_neg cd] at h; exact h.elim
      | _ => exact h.elim
  refine wpAny_call (make_map (f := f) I.kIn M0.makes M0.init (beq_iff_eq.mp M0.fn) (codeAny_mono (FF _ X.stack _ _ (Value.ref (s.heap.objs.size + 1) :: us) _ _ (WE E σ) (hr.make C us []) (I2.env0.make C us []) r2 ⟨W1, _, _, w1, s1, ra2, po⟩) fun r s' hq' => ?_))
  cases r with
  | error e => exact passAt tk σ pins _ _ e s' I2 hq'
  | ok fl =>
    cases fl with
    | ret u =>
      obtain ⟨v, H', I3, rv, ev, q3⟩ := I2.after hq'
      subst ev
      exact ⟨rv, ⟨V.ref (s.heap.objs.size + 1), H', I3, rfl, q3⟩⟩
    | next => exact False.elim hq'
    | brk => exact False.elim hq'
    | cont => exact False.elim hq'
theorem de_make (M0 : MkI X.prog X.w X.K X.mg X.base cl c k F) (hr : Room (k + 1) X.A) (tk : Takes X E) (ha : DA X cl E (e :: es) fs) (hg : Gl X c := by rfl) (hdb : (c == ("__debug__" : Str)) = false := by decide)
    (he : starEach (e :: es) X.env = (false, eval e X.env) :: starEach es X.env := by rfl) (hpl : (backTo pos (starEach es X.env)).any (·.1) = false := by rfl) : DE X cl E (.Call (.Name c p) (e :: es) [] pos) (cA (gMake c F) fs) := by
  obtain ⟨C, f, M1, FF, hc, hm⟩ := M0.ex
  refine ⟨fun pins s σ H Q I h => ?_⟩
  refine wpAny_Call_Name_kw (ld_glob I hg hm ?_ hdb)
  have h2 : tA ⟨X.K, cl⟩ E fs σ H (fun vs H1 => ∃ W1 S1 ds, WOk W1 H1 ∧ StOk ⟨X.K, cl⟩ W1 H1 S1 ∧ RpA ⟨X.K, cl⟩ W1 H1 vs ds ∧ Po ⟨X.K, cl⟩ E σ W1 H1 (gMake c F ds S1) (RV ⟨X.K, cl⟩ Q)) := tA_bind h fun W0 H0 W1 H1 S1 ρ own vs ds ev r hh => ⟨W1, S1, ds, ev.wk, ev.st, r, hh⟩
  refine PySem.W.callWith_K (h₀ := X.base) I.ok.mod.kin M1.kp (thn (ha.run pos pins s σ H _ I h2) fun us s1 ⟨vs, H1, I1, r, W1, S1, ds, wk, st, ra, q⟩ => ⟨I1.kIn, ?_⟩) he hpl
  exact run_make1 M1 FF hr hc tk I1 r wk st ra q
end
end DN
/-! DO11: instances as data: properties, classmethods, len, str, ==, !=, isinstance. -/
namespace DN
open PySem PySem.Spec PyProof.Rows L2
/-- no exception -/
def nox {α : Type} : Res α → Res α
  | .exc _ _ _ => .bad
  | r => r
section
variable {X : Cx} {cl : Cls_} {E : WX} {k : Nat} {F : List D → M D}
theorem run_N {A' : Around} {f : Addr} {pins : List (Addr × Obj)} {σ : L2.St} {H : Hp} {s : Shared} {Q : VK} {us : List Value} {vs : List V} {ds : List D} {W : Wd} {S : Store} (FF : FnN X.prog X.w X.K X.mg X.base cl k f F) (hr : Room k A') (e0 : Env0 X.prog X.w X.K X.mg X.base A' X.stack s H) (tk : Takes X E)
    (I : Inv X pins σ H s) (r : Vals vs us) (wk : WOk W H) (st : StOk ⟨X.K, cl⟩ W H S) (ra : RpA ⟨X.K, cl⟩ W H vs ds) (h : Po ⟨X.K, cl⟩ E σ W H (F ds S) (RV ⟨X.K, cl⟩ Q)) :
    wpAny (model X.prog X.w) A' (call (.ref f) us) (EP X pins σ Q) X.xe s := by
  refine wpAny_call (codeAny_mono (FF A' X.stack s H us vs Q (WE E σ) hr e0 r ⟨W, S, ds, wk, st, ra, h.wish fun _ _ _ q => q⟩) fun r s' hq => ?_)
  cases r with
  | error e => exact passAt tk σ pins _ _ e s' I hq
  | ok fl =>
    cases fl with
    | ret u => exact I.after hq
    | next => exact False.elim hq
    | brk => exact False.elim hq
    | cont => exact False.elim hq
theorem Po.nox {G : Gx} {E E' : WX} {σ σ' : L2.St} {W : Wd} {H : Hp} {α : Type} {r : Res α} {R : α → Store → Wd → Hp → Prop} (h : Po G E σ W H (DN.nox r) R) : Po G E' σ' W H r R := by
  cases r with
  | bad => exact h
  | exc _ _ _ => exact h.elim
  | ok _ _ => exact h
theorem run_N0 {A' : Around} {f : Addr} {pins : List (Addr × Obj)} {σ : L2.St} {H : Hp} {s : Shared} {Q : VK} {us : List Value} {vs : List V} {ds : List D} {W : Wd} {S : Store} (FF : FnN X.prog X.w X.K X.mg X.base cl k f F) (hr : Room k A') (e0 : Env0 X.prog X.w X.K X.mg X.base A' X.stack s H)
    (I : Inv X pins σ H s) (r : Vals vs us) (wk : WOk W H) (st : StOk ⟨X.K, cl⟩ W H S) (ra : RpA ⟨X.K, cl⟩ W H vs ds) (h : Po ⟨X.K, cl⟩ E σ W H (nox (F ds S)) (RV ⟨X.K, cl⟩ Q)) {E' : Value → Shared → Prop} :
    wpAny (model X.prog X.w) A' (call (.ref f) us) (EP X pins σ Q) E' s := by
  refine wpAny_call (codeAny_mono (FF A' X.stack s H us vs Q (fun _ _ _ => False) hr e0 r ⟨W, S, ds, wk, st, ra, h.nox⟩) fun r s' hq => ?_)
  cases r with
  | error e => obtain ⟨_, _, _, _, _, _, _, _, _, _, _, _, z⟩ := hq; exact z.elim
  | ok fl =>
    cases fl with
    | ret u => exact I.after hq
    | next => exact False.elim hq
    | brk => exact False.elim hq
    | cont => exact False.elim hq
end
/-- a def of a class, by the name of its class -/
structure OwnM (P : Program) (w : World) (K : PySem.W.Frag) (mg : Str → Option Value) (base : Heap) (cl : Cls_) (m : Str) (c : Str) (k : Nat) (F : List D → M D) : Prop where
  ex : ∃ C f, cl.at_ c = some C ∧ PySem.W.findIn K (.ref C) m = some (some (.ref f)) ∧ PySem.W.isFn K (.ref f) = true ∧ FnN P w K mg base cl k f F
structure PropI (P : Program) (w : World) (K : PySem.W.Frag) (mg : Str → Option Value) (base : Heap) (cl : Cls_) (m : Str) (c : Str) (k : Nat) (F : List D → M D) : Prop where
  ex : ∃ C p g, cl.at_ c = some C ∧ Cls K C ∧ PropOf K C m p g ∧ FnN P w K mg base cl k g F
def gProp (c : Str) (F : List D → M D) : D → M D
  | .ins c' fs => if c' = c then fun S => nox (F [.ins c' fs] S) else M.bad
  | _ => M.bad
section
variable {X : Cx} {cl : Cls_} {E : WX} {k : Nat} {c f m : Str} {a : Expr} {fa : Env → M D} {F : List D → M D} {pos : Pos}
theorem de_prop (T : PropI X.prog X.w X.K X.mg X.base cl f c k F) (hr : Room (k + 1) X.A) (ha : DE X cl E a fa) (hb : attributeBase a f X.env (eval a X.env) = eval a X.env := by rfl) : DE X cl E (.Attribute a f pos) (c1 (gProp c F) fa) := by
  obtain ⟨C, p, g, hc, hC, hp, FF⟩ := T.ex
  refine ⟨fun pins s σ H Q I h => ?_⟩
  have h2 : tE ⟨X.K, cl⟩ E fa σ H (fun v H1 => ∃ W1 S1 d, WOk W1 H1 ∧ StOk ⟨X.K, cl⟩ W1 H1 S1 ∧ Rp ⟨X.K, cl⟩ W1 H1 v d ∧ Po ⟨X.K, cl⟩ E σ W1 H1 (gProp c F d S1) (RV ⟨X.K, cl⟩ Q)) := tE_bind h fun W0 H0 W1 H1 S1 ρ own v d ev r hh => ⟨W1, S1, d, ev.wk, ev.st, r, hh⟩
  refine attr_of hb (thn (ha.run pins s σ H _ I h2) fun u s1 ⟨x, H1, I1, rx, W1, S1, d, wk, st, rd, q⟩ => ?_)
  cases d with
  | ins c' fs =>
    unfold gProp at q
    dsimp only at q
    by_cases e : c' = c
    · rw [if_pos e] at q
      subst e
      obtain ⟨rest, hrec⟩ := hp.rec_
      have rd0 := rd
      cases rd with
      | @ins _ a0 C' dx vs _ e1 ea nb rf =>
        have e1 : cl.at_ c' = some C' := e1
        rw [hc] at e1
        cases e1
        obtain rfl : u = Value.ref a0 := rx
        obtain ⟨mA, O, _, _, _, _⟩ := ins_get I1.hok ea
        obtain ⟨od, J, _⟩ := O.look
        have hcl : (PySem.W.clsIn X.K C).isSome = true := by
          obtain ⟨cd, hc, _⟩ := PySem.W.any_some hC.hd
          rw [hc]; rfl
        have I2 := I1.tok (s1.toks + 1)
        refine PySem.W.get_bind I1.kIn J (PySem.W.plainGet_of (hC.get f)).1 (PySem.W.findObj_data hcl hp.at_ hp.get hp.tak) (PySem.W.plainGet_of (hC.get f)).2 (wpAny_call (PySem.W.prop_get (s := { s1 with toks := s1.toks + 1 }) I1.kIn hrec ?_))
        refine codeAny_mono (FF X.A.in1 X.stack { s1 with toks := s1.toks + 1 } H1 [.ref a0] [.ref a0] Q (fun _ _ _ => False) hr.in1 I2.env0.in1 (.cons rfl .nil) ⟨W1, S1, [.ins c' fs], wk, st, .cons rd0 .nil, Po.nox (E := E) (σ := σ) q⟩) fun r s' hq => ?_
        cases r with
        | error er => obtain ⟨_, _, _, _, _, _, _, _, _, _, _, _, z⟩ := hq; exact z.elim
        | ok fl =>
          cases fl with
          | ret u =>
            obtain ⟨v, H', I3, rv, q3⟩ := I2.after hq
            show wpAny _ _ (handedOut u) _ _ _
            rw [PySem.W.handedOut_of (handed_of rv)]
            exact wpAny_pure ⟨v, H', I3, rv, q3⟩
          | next => exact False.elim hq
          | brk => exact False.elim hq
          | cont => exact False.elim hq
    · rw [if_neg e] at q; exact q.elim
  | _ => exact q.elim
/-! ### C.m(..), m a classmethod -/
structure CMetI (P : Program) (w : World) (K : PySem.W.Frag) (mg : Str → Option Value) (base : Heap) (cl : Cls_) (m : Str) (c : Str) (k : Nat) (F : List D → M D) : Prop where
  ex : ∃ C mc p g, cl.at_ c = some C ∧ mg c = some (.ref C) ∧ ClX.CRead K C mc ∧ ClX.CMet K C mc m p g ∧ FnN P w K mg base cl k g F
theorem de_cmeth {x : Str} {e : Expr} {es : List Expr} {fs : Env → M (List D)} {p0 apos : Pos} {pl : Sem Bool} (T : CMetI X.prog X.w X.K X.mg X.base cl m c k F) (hr : Room k X.A) (tk : Takes X E) (ha : DA X cl E (e :: es) fs) (hg : Gl X c := by rfl) (hdb : (c == ("__debug__" : Str)) = false := by decide)
    (hst : starEach (e :: es) X.env = (false, eval e X.env) :: starEach es X.env := by rfl) (hpl : (backTo pos (starEach es X.env)).any (·.1) = false := by rfl)
    (ht : eval (.Call (.Attribute (.Name c p0) m apos) (e :: es) [] pos) X.env = (do
      let ov ← eval (.Name c p0) X.env
      standAt apos.atName
      let (f, first) ← holding [ov] (getMethod ov m pl)
      callWith pos f first (backTo pos (starEach (e :: es) X.env)) (backToKw pos (keywordEach [] X.env))) := by rfl) :
    DE X cl E (.Call (.Attribute (.Name c p0) m apos) (e :: es) [] pos) (cA (fun ds => F (.cls c :: ds)) fs) := by
  obtain ⟨C, mc, p, g, hc, hm, rd, cm, FF⟩ := T.ex
  refine ⟨fun pins s σ H Q I h => ?_⟩
  have h2 : tA ⟨X.K, cl⟩ E fs σ H (fun vs H1 => ∃ W1 S1 ds, WOk W1 H1 ∧ StOk ⟨X.K, cl⟩ W1 H1 S1 ∧ RpA ⟨X.K, cl⟩ W1 H1 vs ds ∧ Po ⟨X.K, cl⟩ E σ W1 H1 (F (.cls c :: ds) S1) (RV ⟨X.K, cl⟩ Q)) := tA_bind h fun W0 H0 W1 H1 S1 ρ own vs ds ev r hh => ⟨W1, S1, ds, ev.wk, ev.st, r, hh⟩
  refine PySem.W.methodCall_KW (pl := pl) (thn ((pe_glob (v := .ref C) (pos := p0) hg hm rfl hdb).run pins s σ H (fun v H1 => v = .ref C ∧ H1 = H) I ⟨rfl, rfl⟩) fun u s1 ⟨x, H1, I1, rx, ex, eH⟩ => ?_) ht
  subst ex
  subst eH
  obtain rfl : u = Value.ref C := rx
  refine ClX.getmethcm_ok I1 rd cm fun s2 I2 => ?_
  refine ClX.callwith_cm I2 (ClX.base_none I1 (Nat.le_refl _)) cm.fi (thn (ha.run pos _ s2 σ _ _ I2 h2) fun us s3 ⟨vs, H2, I3, rv, W1, S1, ds, wk, st, ra, q2⟩ => ⟨⟨ClX.pin_at I3, I3.kIn⟩, ?_⟩) hst hpl
  have z : wpAny (model X.prog X.w) X.A (call (.ref s1.heap.objs.size) us) (EP X ((s1.heap.objs.size, PySem.W.methodObj (.ref g) (.ref C)) :: pins) σ Q) X.xe s3 := by
    refine wpAny_call (PySem.W.method_call (ClX.pin_at I3) (codeAny_mono (FF X.A X.stack s3 H2 (.ref C :: us) (.ref C :: vs) Q (WE E σ) hr I3.env0 (.cons rfl rv) ⟨W1, S1, .cls c :: ds, wk, st, .cons (.cls hc) ra, q2.wish fun _ _ _ q => q⟩) fun r s' hq => ?_))
    cases r with
    | error e => exact passAt tk σ _ _ _ e s' I3 hq
    | ok fl =>
      cases fl with
      | ret u => exact I3.after hq
      | next => exact False.elim hq
      | brk => exact False.elim hq
      | cont => exact False.elim hq
  exact thn z fun _ _ y => ClX.unpinE y
end
/-! ### len, str -/
def gLenI (c : Str) (F : List D → M D) : List D → M D
  | [.ins c' fs] => if c' = c then fun S => match F [.ins c' fs] S with
    | .ok (.int n) S' => if 0 ≤ n ∧ n < 2 ^ 63 then .ok (.int n) S' else .bad
    | _ => .bad
    else M.bad
  | ds => gLen ds
def gStrI (c : Str) (F : List D → M D) : List D → M D
  | [.ins c' fs] => if c' = c then fun S => match F [.ins c' fs] S with
    | .ok (.str x) S' => .ok (.str x) S'
    | _ => .bad
    else M.bad
  | [.int i] => if i.natAbs.log2 < 1920 then M.pure (.str (toString i)) else M.bad
  | _ => M.bad
section
variable {X : Cx} {cl : Cls_} {E : WX} {k : Nat} {c m : Str} {F : List D → M D}
/-- an own def of the class, called with the instance alone -/
def rSelf (K : PySem.W.Frag) (cl : Cls_) (c : Str) (F : List D → M D) (P : VK → VK) : List V → Hp → VK → Prop := fun xs H Q => ∃ (v : V) (fs : List (Str × D)) (W : Wd) (S : Store), xs = [v] ∧ WOk W H ∧ StOk ⟨K, cl⟩ W H S ∧ Rp ⟨K, cl⟩ W H v (.ins c fs) ∧ Po ⟨K, cl⟩ (fun _ _ _ _ => False) [] W H (nox (F [.ins c fs] S)) (RV ⟨K, cl⟩ (P Q))
theorem insV {v : V} {fs : List (Str × D)} {W : Wd} {H : Hp} {s : Shared} {pins : List (Addr × Obj)} {σ : L2.St} {u : Value} (I : Inv X pins σ H s) (r : Rp ⟨X.K, cl⟩ W H v (.ins c fs)) (ru : RelV v u) : ∃ a C od, v = .ref a ∧ u = .ref a ∧ cl.at_ c = some C ∧ ∃ ox, PySem.W.InstAt s.heap a ox C od := by
  cases r with
  | @ins _ a0 C dx vs _ e1 ea nb rf =>
    obtain rfl : u = Value.ref a0 := ru
    obtain ⟨mA, O, _, _, _, _⟩ := ins_get I.hok ea
    obtain ⟨od, J, _⟩ := O.look
    exact ⟨a0, C, some od, rfl, rfl, e1, _, J⟩
def LenQ (Q : VK) : VK := fun v H => ∃ n : Int, v = .int n ∧ (0 ≤ n ∧ n < 2 ^ 63) ∧ Q (.int n) H
def StrQ (Q : VK) : VK := fun v H => ∃ x : Str, v = .str x ∧ Q (.str x) H
theorem call_lenI (T : OwnM X.prog X.w X.K X.mg X.base cl "__len__" c k F) (hr : Room (k + 1) X.A) : CallR X (.builtin "len") (fun xs H Q => (∃ x n, xs = [x] ∧ LenV X.K x H n ∧ Q (.int n) H) ∨ rSelf X.K cl c F LenQ xs H Q) := by
  intro pins s σ H xs us Q I r h
  rcases h with h | ⟨v, fs, W, S, rfl, wk, st, rv, po⟩
  · exact call_len pins s σ H xs us Q I r h
  · obtain ⟨u, rfl, ru⟩ := vals1 r
    obtain ⟨C, f, hc, hs, hf, FF⟩ := T.ex
    obtain ⟨a, C', od, rfl, rfl, hc', ox, J⟩ := insV I rv ru
    rw [hc] at hc'
    cases hc'
    obtain ⟨m, hF⟩ := I.fr
    refine PySem.W.len_K hF I.ok.mod.kin J hs hf (wpAny_mono (run_N0 (E := fun _ _ _ _ => False) FF hr.in1 I.env0.in1 I (.cons (show RelV (V.ref a) (Value.ref a) from rfl) .nil) wk st (.cons rv .nil) (po.wish fun _ _ _ q => q)) (fun w s' z => ?_) fun _ _ e => e)
    obtain ⟨v, H', I', rv', n, rfl, hn, q⟩ := z
    obtain ⟨t, rfl⟩ := rv'
    exact ⟨hn, .int n, H', I'.tok _, ⟨_, rfl⟩, q⟩
theorem cd_lenI : CallD X.K cl (fun xs H Q => (∃ x n, xs = [x] ∧ LenV X.K x H n ∧ Q (.int n) H) ∨ rSelf X.K cl c F LenQ xs H Q) (gLenI c F) := by
  intro E σ W H S vs ds Q w s r h
  unfold gLenI at h
  split at h
  · rename_i c' fs
    by_cases e : c' = c
    · rw [if_pos e] at h
      subst e
      obtain ⟨v, rfl, rv⟩ := r.inv1
      refine .inr ⟨v, fs, W, S, rfl, w, s, rv, ?_⟩
      cases q : F [.ins c' fs] S with
      | bad => rw [q] at h; exact h.elim
      | exc _ _ _ => rw [q] at h; exact h.elim
      | ok d S' =>
        rw [q] at h
        cases d with
        | int n =>
          dsimp only at h
          by_cases hn : 0 ≤ n ∧ n < 2 ^ 63
          · rw [if_pos hn] at h
            intro W' H' l' w' s' v' rv'
            cases rv'
            exact ⟨n, rfl, hn, h W' H' l' w' s' _ (.int n)⟩
          · rw [if_neg hn] at h; exact h.elim
        | _ => exact h.elim
    · rw [if_neg e] at h; exact h.elim
  · exact .inl (cd_len E σ W H S vs _ Q w s r h)
theorem call_strI (T : OwnM X.prog X.w X.K X.mg X.base cl "__str__" c k F) (hr : Room (k + 3) X.A) : CallR X (.type "str") (fun xs H Q => (∃ i, xs = [.int i] ∧ i.natAbs.log2 < 1920 ∧ Q (.str (toString i)) H) ∨ rSelf X.K cl c F StrQ xs H Q) := by
  intro pins s σ H xs us Q I r h
  rcases h with h | ⟨v, fs, W, S, rfl, wk, st, rv, po⟩
  · exact call_str_int pins s σ H xs us Q I r h
  · obtain ⟨u, rfl, ru⟩ := vals1 r
    obtain ⟨C, f, hc, hs, hf, FF⟩ := T.ex
    obtain ⟨a, C', od, rfl, rfl, hc', ox, J⟩ := insV I rv ru
    rw [hc] at hc'
    cases hc'
    refine PySem.W.kso_call (hr.in1.in1.mono (by omega) : Room k X.A.in1.in1).units0 I.kIn J hs hf (wpAny_mono (run_N0 (E := fun _ _ _ _ => False) FF (hr.in1.in1.mono (by omega)) I.env0.in1.in1 I (.cons (show RelV (V.ref a) (Value.ref a) from rfl) .nil) wk st (.cons rv .nil) (po.wish fun _ _ _ q => q)) (fun w s' z => ?_) fun _ _ e => e)
    obtain ⟨v, H', I', rv', x, rfl, q⟩ := z
    obtain ⟨t, rfl⟩ := rv'
    exact ⟨.str x, H', I', ⟨_, rfl⟩, q⟩
theorem cd_strI : CallD X.K cl (fun xs H Q => (∃ i, xs = [.int i] ∧ i.natAbs.log2 < 1920 ∧ Q (.str (toString i)) H) ∨ rSelf X.K cl c F StrQ xs H Q) (gStrI c F) := by
  intro E σ W H S vs ds Q w s r h
  unfold gStrI at h
  split at h
  · rename_i c' fs
    by_cases e : c' = c
    · rw [if_pos e] at h
      subst e
      obtain ⟨v, rfl, rv⟩ := r.inv1
      refine .inr ⟨v, fs, W, S, rfl, w, s, rv, ?_⟩
      cases q : F [.ins c' fs] S with
      | bad => rw [q] at h; exact h.elim
      | exc _ _ _ => rw [q] at h; exact h.elim
      | ok d S' =>
        rw [q] at h
        cases d with
        | str x =>
          intro W' H' l' w' s' v' rv'
          cases rv'
          exact ⟨x, rfl, h W' H' l' w' s' _ (.str x)⟩
        | _ => exact h.elim
    · rw [if_neg e] at h; exact h.elim
  · rename_i i
    obtain ⟨v, rfl, rv⟩ := r.inv1
    cases rv
    obtain ⟨hl, h⟩ := po_if h
    exact .inl ⟨i, rfl, hl, Po.val w s h (.str _)⟩
  · exact h.elim
end
end DN
/-! DO12: ==, != and isinstance of instances. -/
namespace PySem.W
open PySem PySem.Calls PyProof.Rows Builtin
section
variable {prog : Program} {w : World} {A : Around} {E : Value → Shared → Prop} {s : Shared} {K : Frag} {x C f : Addr} {ox : Obj} {od : Option Obj} {b tb : Value}
theorem ifBound_B {M : Model} {name : Str} {id : String} {args : List Value} {Q : Option Value → Shared → Prop} (X : K.In s.heap) (I : InstAt s.heap x ox C od) (hs : findIn K (.ref C) name = some (some (.builtin id))) (hb : ∀ self, bindSpecial (.builtin id) self = pure (.builtin id, [self]))
    (h : wpAny M A (call (.builtin id) (.ref x :: args)) (fun v => Q (some v)) E s) : wpAny M A (callSpecialIfBound? (.ref x) name args) Q E s := by
  simp only [callSpecialIfBound?, bindSpecialIfBound?]
  refine wpAny_holding (wpAny_bind (wpAny_bind (wpAny_bind (I.type.here ((looks_findIn X hs).here ?_)))))
  refine wpAny_bind (wpAny_askSetting (wpAny_ite ?_))
  have fin : wpAny M A (call (.builtin id) ([.ref x] ++ args) >>= fun v => pure (some v)) Q E s := wpAny_bind (wpAny_mono h (fun v s' h' => wpAny_pure h') fun _ _ h' => h')
  split
  · exact wpAny_bind ((Looks.of_pure (hb _)).here (wpAny_pure (by exact fin)))
  · exact wpAny_tryCatch (wpAny_bind ((Looks.of_pure (hb _)).here (wpAny_pure (by exact fin))))
theorem ne_body {Q : Fin → Shared → Prop} (hu : A.units < cLine) (X : K.In s.heap) (I : InstAt s.heap x ox C od) (he : findIn K (.ref C) "__eq__" = some (some (.ref f))) (hf : isFn K (.ref f) = true)
    (h : wpAny (model prog w) A (call (.ref f) [.ref x, b]) (fun v s' => ∃ r, v = .bool r ∧ Q (.done (.ret (.bool (!r)))) s') E s) : wpAny (model prog w) A (Builtin.«object.__ne__» ⟨[.ref x, b], []⟩) Q E s := by
  unfold Builtin.«object.__ne__»
  repeat (first
    | with_reducible refine wpAny_cRoomFor hu ?_
    | (refine wpAny_bind (m := callSpecialIfBound? (.ref x) (Str.ofString "__eq__") [b]) (ifBound_K X I he hf (wpAny_mono h (fun r s' hr => by
        obtain ⟨q, rfl, hq⟩ := hr
        repeat (first | exact hq | exact wpAny_pure hq | exact wpAny_truthy_bool hq | (refine wpAny_bind (m := truthy (.bool _)) (wpAny_truthy_bool ?_)) | wp_step)) fun _ _ e => e)))
    | wp_step)
theorem ne_K {Q : Value → Shared → Prop} (hu : A.units + 1 < cLine) (X : K.In s.heap) (I : InstAt s.heap x ox C od) (hb : Looks (model prog w) s.heap (typeOf b) tb) (hn : notFirst K C tb = true)
    (hs : findIn K (.ref C) "__ne__" = some (some (.builtin "object.__ne__"))) (he : findIn K (.ref C) "__eq__" = some (some (.ref f))) (hf : isFn K (.ref f) = true) (hm : mroIn K C (.type "object") = some true)
    (h : wpAny (model prog w) A.in1 (call (.ref f) [.ref x, b]) (fun v s' => ∃ r, v = .bool r ∧ Q (.bool (!r)) s') E s) : wpAny (model prog w) A (richCompare .NotEq (.ref x) b) Q E s := by
  have one : wpAny (model prog w) A (tryCompare (.ref x) "__ne__" b) (fun r s' => ∃ v, r = some v ∧ Q v s') E s := by
    simp only [tryCompare]
    refine wpAny_bind (ifBound_B X I hs PySem.F.cmp_object.ne.bind (wpAny_call (codeAny_call_builtin PySem.F.cmp_object.ne.plain PySem.F.cmpEntry_ne
      (check_slot PySem.F.cmpKind_ne PySem.F.cmpSplit_ne (I.type.andThen (looks_mroIn X hm)) (PySem.F.cmpArgs_ne _ _) (ne_body (A := A.in1) hu X I he hf (wpAny_mono h (fun v s' hv => ?_) fun _ _ e => e))))))
    obtain ⟨b, rfl, hq⟩ := hv
    first | exact ⟨b, rfl, wpAny_pure ⟨_, rfl, hq⟩⟩ | exact ⟨b, rfl, wpAny_pure (wpAny_pure ⟨_, rfl, hq⟩)⟩ | exact ⟨b, rfl, _, rfl, hq⟩
  unfold richCompare
  simp only [oneThing_ref]
  refine wpAny_holding (wpAny_bind (wpAny_cRoomFor (Nat.lt_of_succ_lt hu) ?_))
  rw [cmpInfo_NotEq]
  dsimp only
  refine wpAny_bind (I.type.here (wpAny_bind (hb.here ?_)))
  split
  · rename_i q
    have e : subIn K tb (.ref C) = some false := by
      rcases Bool.or_eq_true_iff.mp hn with e | e
      · rw [beq_iff_eq.mp e] at q; simp at q
      · exact beq_iff_eq.mp e
    refine wpAny_bind ((looks_subIn X e).here ?_)
    simp only [Bool.false_eq_true, if_false]
    refine wpAny_bind (wpAny_mono one (fun r s' z => ?_) fun _ _ e => e)
    obtain ⟨v, rfl, hq⟩ := z
    exact wpAny_pure hq
  · refine wpAny_bind (wpAny_pure ?_)
    simp only [Bool.false_eq_true, if_false]
    refine wpAny_bind (wpAny_mono one (fun r s' z => ?_) fun _ _ e => e)
    obtain ⟨v, rfl, hq⟩ := z
    exact wpAny_pure hq
end
end PySem.W
namespace DN
open PySem PySem.Spec PyProof.Rows L2
def okR (c : Str) : D → Bool
  | .non => true
  | .str _ => true
  | .tup _ => true
  | .ins c' _ => c' == c
  | _ => false
def eqIr (neg : Bool) (c : Str) (F : List D → M D) (x y : D) : M D := match x with
  | .ins c' fs => if c' = c ∧ okR c y = true then fun S => match F [.ins c' fs, y] S with
    | .ok (.bl b) S' => .ok (.bl (if neg then !b else b)) S'
    | _ => .bad
    else M.bad
  | _ => M.bad
def gEqI (c : Str) (F : List D → M D) (x y : D) : M D := match x with
  | .ins _ _ => eqIr false c F x y
  | _ => gEqN x y
def gNeI (c : Str) (F : List D → M D) (x y : D) : M D := match x with
  | .ins _ _ => eqIr true c F x y
  | _ => gNe x y
structure OwnE (P : Program) (w : World) (K : PySem.W.Frag) (mg : Str → Option Value) (base : Heap) (cl : Cls_) (c : Str) (k : Nat) (F : List D → M D) : Prop where
  ex : ∃ C f, cl.at_ c = some C ∧ PySem.W.findIn K (.ref C) "__eq__" = some (some (.ref f)) ∧ PySem.W.findIn K (.ref C) "__ne__" = some (some (.builtin "object.__ne__")) ∧ PySem.W.isFn K (.ref f) = true ∧ PySem.W.mroIn K C (.type "object") = some true ∧
    (∀ T ∈ ["NoneType", "str", "tuple"], PySem.W.notFirst K C (.type T) = true) ∧ FnN P w K mg base cl k f F
section
variable {X : Cx} {cl : Cls_} {E : WX} {k : Nat} {c : Str} {F : List D → M D}
theorem lookR {pins : List (Addr × Obj)} {σ : L2.St} {H : Hp} {s : Shared} {W : Wd} {y : V} {d : D} {u : Value} {C : Addr} (I : Inv X pins σ H s) (hc : cl.at_ c = some C) (nf : ∀ T ∈ ["NoneType", "str", "tuple"], PySem.W.notFirst X.K C (.type T) = true) (r : Rp ⟨X.K, cl⟩ W H y d) (ry : RelV y u) (ok : okR c d = true) :
    ∃ tb, (∀ M, PySem.W.Looks M s.heap (typeOf u) tb) ∧ PySem.W.notFirst X.K C tb = true := by
  cases r with
  | non =>
    obtain rfl : u = Value.none := ry
    exact ⟨.type "NoneType", fun M => PySem.W.Looks.of_pure rfl, nf _ (by decide)⟩
  | str x =>
    obtain ⟨t, rfl⟩ := ry
    exact ⟨.type "str", fun M => PySem.W.Looks.of_pure rfl, nf _ (by decide)⟩
  | @tup a vs ds ha ra =>
    obtain rfl : u = Value.ref a := ry
    obtain ⟨its, r, ⟨o, ho, hoc, n, hd⟩, hz⟩ := I.tuple ha.sq
    exact ⟨.type "tuple", fun M => hoc ▸ (PySem.W.Looks.ld ho).andThen .now, nf _ (by decide)⟩
  | @ins c' a C' dx fs ds e1 ea nb rf =>
    obtain rfl : u = Value.ref a := ry
    have e : c' = c := by
      have : (c' == c) = true := ok
      exact eq_of_beq this
    subst e
    have e1 : cl.at_ c' = some C' := e1
    rw [hc] at e1
    cases e1
    obtain ⟨mA, O, _, _, _, _⟩ := ins_get I.hok ea
    obtain ⟨od, J, _⟩ := O.look
    refine ⟨.ref C, fun M => J.type, ?_⟩
    unfold PySem.W.notFirst
    rw [show (Value.ref C == Value.ref C) = true from by simp, Bool.true_or]
  | _ => cases ok
def BoolQ (neg : Bool) (Q : VK) : VK := fun v H => ∃ b : Bool, v = .bl b ∧ Q (.bl (if neg then !b else b)) H
def rEqI (K : PySem.W.Frag) (cl : Cls_) (c : Str) (F : List D → M D) (neg : Bool) : R2 := fun x y H Q => ∃ (fs : List (Str × D)) (d : D) (W : Wd) (S : Store), WOk W H ∧ StOk ⟨K, cl⟩ W H S ∧ Rp ⟨K, cl⟩ W H x (.ins c fs) ∧ Rp ⟨K, cl⟩ W H y d ∧ okR c d = true ∧
  Po ⟨K, cl⟩ (fun _ _ _ _ => False) [] W H (nox (F [.ins c fs, d] S)) (RV ⟨K, cl⟩ (BoolQ neg Q))
theorem op_eqI (T : OwnE X.prog X.w X.K X.mg X.base cl c k F) (hr : Room (k + 1) X.A) : OpR X (compareOp .Eq) (fun x y H Q => rEqN X.K x y H Q ∨ rEqI X.K cl c F false x y H Q) := by
  intro pins s σ H x y v u Q I rx ry h
  rcases h with h | ⟨fs, d, W, S, wk, st, r1, r2, ok, po⟩
  · exact op_eqN hr.units pins s σ H x y v u Q I rx ry h
  · obtain ⟨C, f, hc, hs, _, hf, _, nf, FF⟩ := T.ex
    obtain ⟨tb, lk, hn⟩ := lookR I hc nf r2 ry ok
    obtain ⟨a, C', od, rfl, rfl, hc', ox, J⟩ := insV I r1 rx
    rw [hc] at hc'
    cases hc'
    obtain ⟨m, hF⟩ := I.fr
    show wpAny (model X.prog X.w) X.A (richCompare .Eq (.ref a) u) (EP X pins σ Q) X.xe s
    refine PySem.W.cmp_K (op := .Eq) hr.units0 hF I.ok.mod.kin J (lk _) hn hs hf (wpAny_mono (run_N0 (E := fun _ _ _ _ => False) FF (hr.mono (by omega)) I.env0 I (.cons (show RelV (V.ref a) (Value.ref a) from rfl) (.cons ry .nil)) wk st (.cons r1 (.cons r2 .nil)) (po.wish fun _ _ _ q => q)) (fun w s' z => ?_) fun _ _ e => e)
    obtain ⟨v, H', I', rv', b, rfl, q⟩ := z
    obtain rfl : w = Value.bool b := rv'
    exact ⟨.bl b, H', I', rfl, q⟩
theorem op_neI (T : OwnE X.prog X.w X.K X.mg X.base cl c k F) (hr : Room (k + 1) X.A) : OpR X (compareOp .NotEq) (fun x y H Q => rNeD X.K x y H Q ∨ rEqI X.K cl c F true x y H Q) := by
  intro pins s σ H x y v u Q I rx ry h
  rcases h with h | ⟨fs, d, W, S, wk, st, r1, r2, ok, po⟩
  · exact op_neD hr.units pins s σ H x y v u Q I rx ry h
  · obtain ⟨C, f, hc, hs, hne, hf, hm, nf, FF⟩ := T.ex
    obtain ⟨tb, lk, hn⟩ := lookR I hc nf r2 ry ok
    obtain ⟨a, C', od, rfl, rfl, hc', ox, J⟩ := insV I r1 rx
    rw [hc] at hc'
    cases hc'
    show wpAny (model X.prog X.w) X.A (richCompare .NotEq (.ref a) u) (EP X pins σ Q) X.xe s
    refine PySem.W.ne_K (by have := hr.un; omega) I.kIn J (lk _) hn hne hs hf hm (wpAny_mono (run_N0 (E := fun _ _ _ _ => False) FF hr.in1 I.env0.in1 I (.cons (show RelV (V.ref a) (Value.ref a) from rfl) (.cons ry .nil)) wk st (.cons r1 (.cons r2 .nil)) (po.wish fun _ _ _ q => q)) (fun w s' z => ?_) fun _ _ e => e)
    obtain ⟨v, H', I', rv', b, rfl, q⟩ := z
    obtain rfl : w = Value.bool b := rv'
    exact ⟨b, rfl, .bl (!b), H', I', rfl, q⟩
theorem od_eqIr {K : PySem.W.Frag} {neg : Bool} {W : Wd} {H : Hp} {S : Store} {x y : V} {dx dy : D} {Q : VK} {σ : L2.St} (w : WOk W H) (s : StOk ⟨K, cl⟩ W H S) (rx : Rp ⟨K, cl⟩ W H x dx) (ry : Rp ⟨K, cl⟩ W H y dy) (h : Po ⟨K, cl⟩ E σ W H (eqIr neg c F dx dy S) (RV ⟨K, cl⟩ Q)) : rEqI K cl c F neg x y H Q := by
  unfold eqIr at h
  cases dx with
  | ins c' fs =>
    dsimp only at h
    by_cases e : c' = c ∧ okR c dy = true
    · rw [if_pos e] at h
      obtain ⟨e, ok⟩ := e
      subst e
      refine ⟨fs, dy, W, S, w, s, rx, ry, ok, ?_⟩
      cases q : F [.ins c' fs, dy] S with
      | bad => rw [q] at h; exact h.elim
      | exc _ _ _ => rw [q] at h; exact h.elim
      | ok d S' =>
        rw [q] at h
        cases d with
        | bl b =>
          intro W' H' l' w' s' v' rv'
          cases rv'
          exact ⟨b, rfl, h W' H' l' w' s' _ (.bl _)⟩
        | _ => exact h.elim
    · rw [if_neg e] at h; exact h.elim
  | _ => exact h.elim
theorem od_eqI {K : PySem.W.Frag} : OpD K cl (fun x y H Q => rEqN K x y H Q ∨ rEqI K cl c F false x y H Q) (gEqI c F) := by
  intro E σ W H S x y dx dy Q w s rx ry h
  unfold gEqI at h
  split at h
  · exact .inr (od_eqIr w s rx ry h)
  · exact .inl (od_eqN E σ W H S x y _ dy Q w s rx ry h)
theorem od_neI {K : PySem.W.Frag} : OpD K cl (fun x y H Q => rNeD K x y H Q ∨ rEqI K cl c F true x y H Q) (gNeI c F) := by
  intro E σ W H S x y dx dy Q w s rx ry h
  unfold gNeI at h
  split at h
  · exact .inr (od_eqIr w s rx ry h)
  · exact .inl (od_ne E σ W H S x y _ dy Q w s rx ry h)
end
/-! ### isinstance(e, C), C an own class -/
def gIsI (tab : List (Str × Bool)) : D → M D
  | .ins c _ => match tab.lookup c with
    | some b => M.pure (.bl b)
    | none => M.bad
  | d => match tyD d with
    | some _ => M.pure (.bl false)
    | none => M.bad
structure InsK (K : PySem.W.Frag) (C : Addr) : Prop where
  cl : Cls K C
  ha : PySem.W.findIn K (.ref C) "__class__" = some (some (.builtin "object.__class__"))
  hn : PySem.W.specialIn K (.builtin "object.__class__") "__get__" = some (some (.builtin "getset_descriptor.__get__"))
  htk : PySem.W.takesIn K (.builtin "object.__class__") = some true
  hm : PySem.W.mroIn K C (.type "object") = some true
structure IsI (K : PySem.W.Frag) (mg : Str → Option Value) (cl : Cls_) (x : Str) (tab : List (Str × Bool)) : Prop where
  ex : ∃ (c : V) (u : Value), ClsV c u ∧ (∃ C, mg x = some (.ref C) ∧ c = .ref C) ∧
    (∀ k b, tab.lookup k = some b → ∃ C, cl.at_ k = some C ∧ InsK K C ∧ PySem.W.kitOne K (.ref C) u = some b) ∧ ∀ t ∈ tyNames, PySem.W.kitOne K (.type t) u = some false
def rIsI (K : PySem.W.Frag) : List V → Hp → VK → Prop := fun xs H Q => rIsiZ K xs H Q ∨ ∃ (a C dx : Addr) (fs : List (Str × V)) (c : V) (u : Value) (b : Bool), xs = [.ref a, c] ∧ ClsV c u ∧ InsK K C ∧ H a = some (.ins C dx fs) ∧ PySem.W.kitOne K (.ref C) u = some b ∧ Q (.bl b) H
section
variable {X : Cx} {cl : Cls_} {E : WX} {a : Expr} {fa : Env → M D} {pos : Pos}
theorem call_isI : CallR X (.builtin "isinstance") (rIsI X.K) := by
  intro pins s σ H xs us Q I r h
  rcases h with h | ⟨a, C, dx, fs, c, u, b, ex, k, T, e, ek, q⟩
  · exact call_isiZ pins s σ H xs us Q I r h
  · subst ex
    obtain ⟨u1, u2, rfl, r1, r2⟩ := vals2 r
    have e2 := k.eq r2
    subst e2
    exact isinst_ok I r1 (TyOf.ins e T.cl T.ha T.hn T.htk T.hm) ek fun tk => ⟨.bl b, H, I.tok tk, rfl, q⟩
theorem de_isI {x : Str} {tab : List (Str × Bool)} {p p2 : Pos} (T : IsI X.K X.mg cl x tab) (hm : X.mg "isinstance" = none) (ha : DE X cl E a fa) (hg : Gl X "isinstance" := by rfl) (hg2 : Gl X x := by rfl) (hdb : (x == ("__debug__" : Str)) = false := by decide)
    (he : starEach (a :: [.Name x p2]) X.env = (false, eval a X.env) :: starEach [.Name x p2] X.env := by rfl) (he2 : starEach (.Name x p2 :: []) X.env = (false, eval (.Name x p2) X.env) :: starEach [] X.env := by rfl) (hpl : (backTo pos (starEach [.Name x p2] X.env)).any (·.1) = false := by rfl) :
    DE X cl E (.Call (.Name "isinstance" p) [a, .Name x p2] [] pos) (c1 (gIsI tab) fa) := by
  obtain ⟨c, u, k, hx, tb, ty⟩ := T.ex
  have pc : PE X (.Name x p2) (tC c) := by
    obtain ⟨C, m, rfl⟩ := hx
    exact pe_glob hg2 m rfl hdb
  refine pe_imp (pe_callB call_isI hg hm (by decide +kernel) (pa_cons ha (pa_cons pc pa_nil he2) he) (by decide) (by decide) he hpl) fun σ H Q h => ?_
  refine tE_bind h fun W0 H0 W1 H1 S1 ρ own v d ev rv hh => ?_
  unfold gIsI at hh
  split at hh
  · rename_i c0 fs0
    cases q : tab.lookup c0 with
    | none => rw [q] at hh; exact hh.elim
    | some b =>
      rw [q] at hh
      obtain ⟨C, e1, e2, e3⟩ := tb _ _ q
      cases rv with
      | @ins _ a0 C' dx vs _ e1' ea nb rf =>
        have e1' : cl.at_ c0 = some C' := e1'
        rw [e1] at e1'
        cases e1'
        exact .inr ⟨a0, C, dx, vs, c, u, b, rfl, k, e2, ea, e3, Po.val ev.wk ev.st hh (.bl b)⟩
  · cases q : tyD d with
    | none => rw [q] at hh; exact hh.elim
    | some t =>
      rw [q] at hh
      obtain ⟨tz, ht⟩ := rv.tyx q
      exact .inl ⟨v, c, .type t, u, false, rfl, k, tz, ty t ht, Po.val ev.wk ev.st hh (.bl _)⟩
end
end DN
/-! DO13: *xs in a call; cls(..) in a classmethod. -/
namespace DN
open PySem PySem.Spec PyProof.Rows L2
def cStar (fa : Env → M D) (fs : Env → M (List D)) : Env → M (List D) := fun ρ => do
  let x ← fa ρ
  match x with
  | .tup xs => do let ys ← fs ρ; M.pure (xs ++ ys)
  | _ => M.bad
def cMkV (c : Str) (F : List D → M D) (i : Nat) (fs : Env → M (List D)) : Env → M D := fun ρ => do
  let x ← cVar i ρ
  match x with
  | .cls c' => if c' = c then do let xs ← fs ρ; gMake c F xs else M.bad
  | _ => M.bad
section
variable {X : Cx} {cl : Cls_} {E : WX} {k : Nat} {c x : Str} {p pos : Pos} {e : Expr} {es : List Expr} {fa : Env → M D} {fs : Env → M (List D)} {F : List D → M D}
theorem da_star (ha : DE X cl E e fa) (hs : DA X cl E es fs) (hst : starEach (.Starred e p :: es) X.env = (true, eval e X.env) :: starEach es X.env := by rfl) : DA X cl E (.Starred e p :: es) (cStar fa fs) := by
  refine pa_imp (StX.pa_star ha hs hst) fun σ H Q ⟨W0, H0, W, S, ρ, own, ev, h⟩ => ?_
  refine ⟨W0, H0, W, S, ρ, own, ev, (Po.bind ev.wk h).imp fun d S1 W1 H1 l w s hh v rv => ?_⟩
  cases d with
  | tup xs =>
    cases rv with
    | @tup a vs _ ha ra =>
      refine ⟨a, vs, rfl, .inl ha.sq, W0, H0, W1, S1, ρ, own, ev.mono l w s, (Po.bind w hh).imp fun ds S2 W2 H2 l2 w2 s2 h2 ws rvs => ?_⟩
      exact Po.now w2 s2 h2 _ ((ra.mono (l2.lw w)).app rvs)
  | _ => exact hh.elim
theorem de_mkV {i : Nat} (M0 : MkI X.prog X.w X.K X.mg X.base cl c k F) (hr : Room (k + 1) X.A) (tk : Takes X E) (hv : DE X cl E (.Name x p) (cVar i)) (ha : DA X cl E (e :: es) fs)
    (he : starEach (e :: es) X.env = (false, eval e X.env) :: starEach es X.env := by rfl) (hst : (backTo pos (starEach es X.env)).any (·.1) = true := by rfl) : DE X cl E (.Call (.Name x p) (e :: es) [] pos) (cMkV c F i fs) := by
  obtain ⟨C, f, M1, FF, hc, hm⟩ := M0.ex
  refine ⟨fun pins s σ H Q I h => ?_⟩
  have h2 : tE ⟨X.K, cl⟩ E (cVar i) σ H (fun v H1 => v = .ref C ∧ tA ⟨X.K, cl⟩ E fs σ H1 (fun vs H1 => ∃ W1 S1 ds, WOk W1 H1 ∧ StOk ⟨X.K, cl⟩ W1 H1 S1 ∧ RpA ⟨X.K, cl⟩ W1 H1 vs ds ∧ Po ⟨X.K, cl⟩ E σ W1 H1 (gMake c F ds S1) (RV ⟨X.K, cl⟩ Q))) := by
    refine tE_bind h fun W0 H0 W1 H1 S1 ρ own v d ev rv hh => ?_
    cases d with
    | cls c' =>
      dsimp only at hh
      by_cases e : c' = c
      · rw [if_pos e] at hh
        subst e
        cases rv with
        | @cls _ C' e1 =>
          have e1 : cl.at_ c' = some C' := e1
          rw [hc] at e1
          cases e1
          exact ⟨rfl, W0, H0, W1, S1, ρ, own, ev, (Po.bind ev.wk hh).imp fun ds S2 W2 H2 l w s h3 vs rvs => ⟨W2, S2, ds, w, s, rvs, h3⟩⟩
      · rw [if_neg e] at hh; exact hh.elim
    | _ => exact hh.elim
  refine wpAny_Call_Name_kw (thn (hv.run pins s σ H _ I h2) fun u s1 ⟨v, H1, I1, rv, ev, q1⟩ => ?_)
  subst ev
  obtain rfl : u = Value.ref C := rv
  refine PySem.W.callWith_S2 (h₀ := X.base) I1.ok.mod.kin M1.kp (thn (ha.run pos pins s1 σ H1 _ I1 q1) fun us s2 ⟨vs, H2, I2, r, W1, S1, ds, wk, st, ra, q⟩ => ⟨I2.kIn, ?_⟩) he hst
  exact run_make1 M1 FF hr hc tk I2 r wk st ra q
end
end DN
/-! DO14: tuple * 0, tuple * 1; < of tuples of ints; in, not in a tuple of texts. -/
namespace L2
open PySem PySem.Spec PyProof.Rows
theorem tuple_mul1 (l : Addr) (items : Array Value) (n : Nat) (dd : Option Addr) (sl : Array (Option Value)) (u : Tok) :
    Meets (Builtin.«tuple.__mul__» ⟨[.ref l, .int 1 u], []⟩) (fun _ R s => s.heap.get? l = some { cls := .type "tuple", dict := dd, data := .seq items n, slots := sl } ∧ R (.ok (.ret (Value.ref l))) s) :=
  .of_wp fun prog w A R s h => by
    obtain ⟨hp, g, d, tk, os⟩ := s
    obtain ⟨hl, h⟩ := h
    have f1 := AutoSeq1.idx_int
    have c0 : (decide ((1 : Int) < -(2 ^ 63)) || decide ((1 : Int) ≥ 2 ^ 63)) = false := by decide
    have c1 : (items.isEmpty || (1 : Int) == 1) = true := by simp
    wp_walk using wpAny_loadPart' hl
    repeat (first
      | (refine wpAny_ite_false (decide_eq_false (by rw [c0]; exact Bool.false_ne_true)) ?_; wp_walk using wpAny_loadPart' hl)
      | (refine wpAny_ite_true (decide_eq_true c1) ?_; wp_walk using wpAny_loadPart' hl))
    exact ⟨_, rfl, h⟩
theorem tuple_mul0 (l : Addr) (items : Array Value) (n : Nat) (dd : Option Addr) (sl : Array (Option Value)) (x : Int) (u : Tok) (c0 : (decide (x < -(2 ^ 63)) || decide (x ≥ 2 ^ 63)) = false) (c1 : (items.isEmpty || x == 1) = false) (c2 : (decide (x ≤ 0) || items.isEmpty) = true) :
    Meets (Builtin.«tuple.__mul__» ⟨[.ref l, .int x u], []⟩) (fun _ R s => s.heap.get? l = some { cls := .type "tuple", dict := dd, data := .seq items n, slots := sl } ∧
      R (.ok (.ret (Value.ref s.heap.objs.size))) { s with heap := s.heap.push { cls := Value.type "tuple", data := Data.seq #[] }, toks := s.toks }) :=
  .of_wp fun prog w A R s h => by
    obtain ⟨hp, g, d, tk, os⟩ := s
    obtain ⟨hl, h⟩ := h
    have f1 := AutoSeq1.idx_int
    wp_walk using wpAny_loadPart' hl
    repeat (first
      | (refine wpAny_ite_false (decide_eq_false (by rw [c0]; exact Bool.false_ne_true)) ?_; wp_walk using wpAny_loadPart' hl)
      | (refine wpAny_ite_false (decide_eq_false (by rw [c1]; exact Bool.false_ne_true)) ?_; wp_walk using wpAny_loadPart' hl)
      | (refine wpAny_ite_true (decide_eq_true c2) ?_; wp_walk using wpAny_loadPart' hl))
    exact ⟨_, rfl, h⟩
def rRep01 (K : PySem.W.Frag) : R2 := fun x y H Q => ∃ l k xs, x = .ref l ∧ y = .int k ∧ SqT K H l xs ∧ xs ≠ [] ∧ ((k = 1 ∧ Q (.ref l) H) ∨ (-1000 ≤ k ∧ k ≤ 0 ∧ ∀ p, H p = none → Q (.ref p) (upd H p (.tup []))))
section
variable {X : Cx}
theorem op_rep01 : OpR X (binaryOp .Mult) (rRep01 X.K) := by
  intro pins s σ H x y v u Q I rx ry h
  obtain ⟨l, k, xs, rfl, rfl, hT, hne, h⟩ := h
  cases rx
  obtain ⟨t, rfl⟩ := ry
  obtain ⟨its, r, ⟨⟨cls, dd, data, sl⟩, ho, hc, n, hd⟩, hs⟩ := I.tuple hT
  simp only at hc hd
  subst hc hd
  have hle : its.length = xs.length := r.length.symm
  have hn : its ≠ [] := fun e => hne (by
    rw [e] at hle
    exact List.eq_nil_of_length_eq_zero hle.symm)
  have hi : its.toArray.isEmpty = false := by
    cases its with
    | nil => exact absurd rfl hn
    | cons a b => rfl
  rcases h with ⟨rfl, q⟩ | ⟨h1, h2, q⟩
  · refine wpAny_binaryOp_repeat_ref (T := "tuple") (U := "int") (by decide) ⟨_, ho, rfl⟩ (fun s' => typeIs_int s' 1 t) noFill_tuple_mul F.fills_int_mul F.slot_int_rmul repeat_tuple F.slot_int_index.lookup
      (call_meets F.slot_int_rmul (typeIs_int s 1 t) F.entry_int_rmul (F.args_int_rmul_2 _ _) (int_rmul_tuple 1 t l its.toArray n dd sl)
        ⟨ho, rfl, ⟨_, ho, rfl⟩, call_meets F.slot_tuple_mul ⟨_, ho, rfl⟩ F.entry_tuple_mul (F.args_tuple_mul_2 _ _) (tuple_mul1 l its.toArray n dd sl t) ⟨ho, ?_⟩⟩)
    exact ⟨.ref l, H, I, rfl, q⟩
  · have c0 : (decide (k < -(2 ^ 63)) || decide (k ≥ 2 ^ 63)) = false := by
      rw [decide_eq_false (by omega), decide_eq_false (by omega)] <;> rfl
    have c1 : (its.toArray.isEmpty || k == 1) = false := by
      rw [hi, Bool.false_or]
      exact beq_eq_false_iff_ne.mpr (by omega)
    have c2 : (decide (k ≤ 0) || its.toArray.isEmpty) = true := by
      rw [hi, Bool.or_false]
      exact decide_eq_true h2
    refine wpAny_binaryOp_repeat_ref (T := "tuple") (U := "int") (by decide) ⟨_, ho, rfl⟩ (fun s' => typeIs_int s' k t) noFill_tuple_mul F.fills_int_mul F.slot_int_rmul repeat_tuple F.slot_int_index.lookup
      (call_meets F.slot_int_rmul (typeIs_int s k t) F.entry_int_rmul (F.args_int_rmul_2 _ _) (int_rmul_tuple k t l its.toArray n dd sl)
        ⟨ho, rfl, ⟨_, ho, rfl⟩, call_meets F.slot_tuple_mul ⟨_, ho, rfl⟩ F.entry_tuple_mul (F.args_tuple_mul_2 _ _) (tuple_mul0 l its.toArray n dd sl k t c0 c1 c2) ⟨ho, ?_⟩⟩)
    refine ⟨.ref s.heap.objs.size, _, I.laid (t' := s.toks) (o := .tup []) (fun b ob q => Heap.get?_push_of_some _ q) (Nat.le_refl _) ?_, rfl, q _ (I.hok.fresh (Nat.le_refl _))⟩
    exact ⟨by rw [sizeLine_eq]; exact Nat.zero_le _, [], .nil, IsTup.new _ _⟩
end
end L2
namespace DN
open PySem PySem.Spec PyProof.Rows L2 SeqAt
/-- *, tuples of any number of times -/
def gMulA : D → D → M D
  | .tup xs, .int j => if xs.isEmpty = false ∧ j ≤ 1 then (if j = 1 then M.pure (.tup xs) else if -1000 ≤ j then M.pure (.tup []) else M.bad) else gMul (.tup xs) (.int j)
  | x, y => gMul x y
/-- <, tuples of ints too -/
def gLtT : D → D → M D
  | .tup xs, .tup ys => match intsD xs, intsD ys with
    | some ns, some ms => M.pure (.bl (HT.lexLt ns ms))
    | _, _ => M.bad
  | x, y => gLt x y
def isS (x : D) (z : Str) : Bool := match x with
  | .str w => z == w
  | _ => false
def inS (x y : D) : Option Bool := match y with
  | .tup ds => match strsD ds, kn x with
    | some zs, some _ => some (zs.any (isS x))
    | _, _ => none
  | _ => none
def gInS (x y : D) : M D := match inS x y with
  | some b => M.pure (.bl b)
  | none => M.bad
def gNotInS (x y : D) : M D := match inS x y with
  | some b => M.pure (.bl (!b))
  | none => M.bad
section
variable {X : Cx} {cl : Cls_} {K : PySem.W.Frag}
theorem op_mulB : OpR X (binaryOp .Mult) (fun x y H Q => rRep01 X.K x y H Q ∨ rMulA X.K x y H Q) := op_rep01.or op_mulA
theorem od_mulB : OpD K cl (fun x y H Q => rRep01 K x y H Q ∨ rMulA K x y H Q) gMulA := by
  intro E σ W H S x y dx dy Q w s rx ry h
  unfold gMulA at h
  split at h
  · rename_i xs j
    by_cases c : xs.isEmpty = false ∧ j ≤ 1
    · rw [if_pos c] at h
      cases rx with
      | @tup a vs _ ha ra =>
        cases ry
        refine .inl ⟨a, j, vs, rfl, rfl, ha.sq, fun e => ?_, ?_⟩
        · subst e
          cases ra
          cases c.1
        · by_cases c1 : j = 1
          · rw [if_pos c1] at h
            exact .inl ⟨c1, Po.val w s h (.tup ha ra)⟩
          · rw [if_neg c1] at h
            obtain ⟨c2, h⟩ := po_if h
            exact .inr ⟨c2, by omega, fun p hp => Po.new w s h hp (Rp.newTup w hp .nil)⟩
    · rw [if_neg c] at h
      exact .inr (od_mul E σ W H S x y _ _ Q w s rx ry h)
  · exact .inr (od_mul E σ W H S x y _ _ Q w s rx ry h)
theorem op_ltB (hu : X.A.units + 64 < cLine) : OpR X (compareOp .Lt) (fun x y H Q => rLtT X.K x y H Q ∨ rLtA x y H Q) := (op_ltT (by omega)).or op_ltA
theorem od_ltB : OpD K cl (fun x y H Q => rLtT K x y H Q ∨ rLtA x y H Q) gLtT := by
  intro E σ W H S x y dx dy Q w s rx ry h
  unfold gLtT at h
  split at h
  · rename_i xs ys
    cases q1 : intsD xs with
    | none => rw [q1] at h; exact h.elim
    | some ns =>
      cases q2 : intsD ys with
      | none => rw [q1, q2] at h; exact h.elim
      | some ms =>
        rw [q1, q2] at h
        cases rx with
        | @tup a vs _ ha ra =>
          cases ry with
          | @tup b ws _ hb rb =>
            obtain ⟨rfl, _⟩ := ra.intsOf q1
            obtain ⟨rfl, _⟩ := rb.intsOf q2
            exact .inl ⟨a, b, ns, ms, rfl, rfl, ha.sq, hb.sq, Po.val w s h (.bl _)⟩
  · exact .inr (od_lt E σ W H S x y _ _ Q w s rx ry h)
def rInS (K : PySem.W.Frag) (neg : Bool) : R2 := fun x y H Q => ∃ (cl : Cls_) (W : Wd) (dx dy : D) (b : Bool), Rp ⟨K, cl⟩ W H x dx ∧ Rp ⟨K, cl⟩ W H y dy ∧ inS dx dy = some b ∧ Q (.bl (if neg then !b else b)) H
theorem inS_at {A : Around} {pins : List (Addr × Obj)} {s : Shared} {σ : L2.St} {H : Hp} {x y : V} {v u : Value} {W : Wd} {dx dy : D} {b : Bool} (I : Inv X pins σ H s) (hu : A.units + 1 < cLine) (r1 : Rp ⟨X.K, cl⟩ W H x dx) (r2 : Rp ⟨X.K, cl⟩ W H y dy) (e1 : RelV x v) (e2 : RelV y u) (h : inS dx dy = some b) :
    ∃ (a : Addr) (its : List Value) (e : Value → Bool), u = .ref a ∧ s.heap.IsTuple a its.toArray ∧ (∀ z, z ∈ its.toArray → EqAt A.in1 s z v (e z)) ∧ b = its.toArray.any e := by
  unfold inS at h
  cases dy with
  | tup ds =>
    dsimp only at h
    cases q1 : strsD ds with
    | none => rw [q1] at h; cases h
    | some zs =>
      cases q2 : kn dx with
      | none => rw [q1, q2] at h; cases h
      | some i =>
        rw [q1, q2] at h
        cases h
        cases r2 with
        | @tup a vs _ ha ra =>
          obtain rfl : u = Value.ref a := e2
          obtain ⟨its, p1, p2, p3⟩ := tupV I ha ra
          obtain rfl := ra.strs q1
          have key : ∀ z ∈ its, ∃ (w : Str) (t : Tok), z = Value.str w t := by
            clear ra ha p2 p3 q1
            revert p1
            generalize its = l
            induction zs generalizing l with
            | nil => intro p1 z hz; cases p1; cases hz
            | cons w ws ih =>
              intro p1 z hz
              cases p1 with
              | cons r t =>
                rcases List.mem_cons.mp hz with rfl | hz
                · obtain ⟨tk, e⟩ := r
                  exact ⟨w, tk, e⟩
                · exact ih _ t z hz
          refine ⟨a, its, fun z => match z with | .str w _ => isS dx w | _ => false, rfl, p2, fun z hz => ?_, ?_⟩
          · obtain ⟨w, t, rfl⟩ := key z (by simpa using hz)
            have hu1 : A.in1.units < cLine := by show A.units + 1 < cLine; omega
            by_cases hi : i = 2
            · subst hi
              cases dx with
              | str w2 =>
                cases r1
                obtain ⟨t2, rfl⟩ := e1
                exact (scal_eq (X := X) (cl := cl) (W := W) (H := H) (v := .str w) (w := .str w2) (x := .str w) (y := .str w2) (i := 2) (.str w) (.str w2) ⟨t, rfl⟩ ⟨t2, rfl⟩ rfl rfl (by omega)).2
              | non => cases q2
              | bl _ => cases q2
              | int _ => cases q2
              | tup _ => cases q2
              | lst _ => cases q2
              | dct kvs => have := kn_dct q2; omega
              | _ => cases q2
            · have z := (sv_unlike hu1 (Sv.str w t) (sv_of I r1 e1 q2) (fun e => hi e.symm)).2
              have ef : isS dx w = false := by
                cases dx with
                | str w2 => cases q2; exact absurd rfl hi
                | _ => rfl
              show EqAt A.in1 s (.str w t) v (isS dx w)
              rw [ef]
              exact z
          · clear p2 p3 key ra ha q1
            rw [List.any_toArray]
            revert p1
            generalize its = l
            induction zs generalizing l with
            | nil => intro p1; cases p1; rfl
            | cons w ws ih =>
              intro p1
              cases p1 with
              | cons r t =>
                obtain ⟨tk, rfl⟩ := r
                rw [List.any_cons, List.any_cons, ih _ t]
  | _ => cases h
theorem op_inS (hu : X.A.units + 64 < cLine) : OpR X (compareOp .In) (rInS X.K false) := by
  intro pins s σ H x y v u Q I rx ry ⟨cl, W, dx, dy, b, r1, r2, e, q⟩
  obtain ⟨a, its, ef, rfl, hT, he, hb⟩ := inS_at (A := X.A) I (by omega) r1 r2 rx ry e
  exact in_tupleAt ef hT he ⟨.bl b, H, I, by rw [hb]; rfl, q⟩
theorem op_notInS (hu : X.A.units + 64 < cLine) : OpR X (compareOp .NotIn) (rInS X.K true) := by
  intro pins s σ H x y v u Q I rx ry ⟨cl, W, dx, dy, b, r1, r2, e, q⟩
  obtain ⟨a, its, ef, rfl, hT, he, hb⟩ := inS_at (A := X.A) I (by omega) r1 r2 rx ry e
  exact notIn_tupleAt ef hT he ⟨.bl (!b), H, I, by rw [hb]; rfl, q⟩
theorem od_inS : OpD K cl (rInS K false) gInS := by
  intro E σ W H S x y dx dy Q w s rx ry h
  unfold gInS at h
  cases q : inS dx dy with
  | none => rw [q] at h; exact h.elim
  | some b => rw [q] at h; exact ⟨cl, W, dx, dy, b, rx, ry, q, Po.val w s h (.bl b)⟩
theorem od_notInS : OpD K cl (rInS K true) gNotInS := by
  intro E σ W H S x y dx dy Q w s rx ry h
  unfold gNotInS at h
  cases q : inS dx dy with
  | none => rw [q] at h; exact h.elim
  | some b => rw [q] at h; exact ⟨cl, W, dx, dy, b, rx, ry, q, Po.val w s h (.bl (!b))⟩
end
end DN
/-! DO15: sorted(set(xs)), xs a tuple of ints. -/
namespace L2
open PySem PySem.Spec PyProof.Rows
section
variable {X : Cx}
def rSetTI (K : PySem.W.Frag) (w : World) : List V → Hp → VK → Prop := fun xs H Q => ∃ (l : Addr) (ns : List Int), xs = [V.ref l] ∧ SqT K H l (ns.map V.int) ∧ ns.length < 64 ∧ ∀ a c, H a = none → c ≤ ns.length → Q (.ref a) (upd H a (SetO w a (fun j => decide (j ∈ ns)) c))
theorem cr_setTI (hc : X.calm = true) : CallR X (.type "set") (rSetTI X.K X.w) := by
  intro pins s σ H xs us Q I r ⟨l, ns, ex, hl, few, q⟩
  subst ex
  rw [Vals.ref1 r]
  obtain ⟨its, rv, pl, hz⟩ := I.tuple hl
  refine call_set_tupI (P := X.prog) (w := X.w) ns (I.ok.hd hc) pl (by simpa using rv.ints) (by unfold scanBound; omega) fun h' tk c R hn k => ?_
  exact ⟨.ref s.heap.objs.size, upd H s.heap.objs.size (SetO X.w s.heap.objs.size (fun j => decide (j ∈ ns)) c), I.laid (t' := tk) k (Nat.le_refl _) (setO_new R), rfl, q _ c (I.hok.fresh (Nat.le_refl _)) hn⟩
end
end L2
namespace DN
open PySem PySem.Spec PyProof.Rows L2
/-- the different ones of a list of ints, ascending -/
def insI (x : Int) : List Int → List Int
  | [] => [x]
  | y :: ys => if x < y then x :: y :: ys else if x = y then y :: ys else y :: insI x ys
def sortI (ns : List Int) : List Int := ns.foldr insI []
theorem insI_mem {x k : Int} : ∀ {ys : List Int}, k ∈ insI x ys ↔ k = x ∨ k ∈ ys
  | [] => by simp [insI]
  | y :: ys => by
    unfold insI
    split
    · simp
    · split
      · rename_i h; subst h; simp
      · simp only [List.mem_cons, insI_mem (ys := ys)]
        constructor
        · rintro (h | h | h) <;> simp [h]
        · rintro (h | h | h) <;> simp [h]
theorem insI_pw {x : Int} : ∀ {ys : List Int}, ys.Pairwise (· < ·) → (insI x ys).Pairwise (· < ·)
  | [], _ => by simp [insI]
  | y :: ys, h => by
    obtain ⟨h1, h2⟩ := List.pairwise_cons.mp h
    unfold insI
    split
    · rename_i c
      refine List.pairwise_cons.mpr ⟨fun z hz => ?_, h⟩
      rcases List.mem_cons.mp hz with rfl | hz
      · exact c
      · exact Int.lt_trans c (h1 z hz)
    · split
      · exact h
      · refine List.pairwise_cons.mpr ⟨fun z hz => ?_, insI_pw h2⟩
        rcases insI_mem.mp hz with rfl | hz
        · omega
        · exact h1 z hz
theorem sortI_mem {k : Int} : ∀ {ns : List Int}, k ∈ sortI ns ↔ k ∈ ns
  | [] => Iff.rfl
  | n :: ns => by
    show k ∈ insI n (sortI ns) ↔ _
    rw [insI_mem, sortI_mem, List.mem_cons]
theorem sortI_pw : ∀ {ns : List Int}, (sortI ns).Pairwise (· < ·)
  | [] => List.Pairwise.nil
  | _ :: _ => insI_pw sortI_pw
theorem pw_uniq : ∀ {xs ys : List Int}, xs.Pairwise (· < ·) → ys.Pairwise (· < ·) → (∀ k, k ∈ xs ↔ k ∈ ys) → xs = ys
  | [], [], _, _, _ => rfl
  | [], y :: ys, _, _, h => absurd ((h y).mpr List.mem_cons_self) (by simp)
  | x :: xs, [], _, _, h => absurd ((h x).mp List.mem_cons_self) (by simp)
  | x :: xs, y :: ys, h1, h2, h => by
    obtain ⟨a1, a2⟩ := List.pairwise_cons.mp h1
    obtain ⟨b1, b2⟩ := List.pairwise_cons.mp h2
    have e : x = y := by
      rcases List.mem_cons.mp ((h x).mp List.mem_cons_self) with e | e
      · exact e
      · rcases List.mem_cons.mp ((h y).mpr List.mem_cons_self) with e2 | e2
        · exact e2.symm
        · have := b1 x e; have := a1 y e2; omega
    subst e
    refine congrArg _ (pw_uniq a2 b2 fun k => ⟨fun hk => ?_, fun hk => ?_⟩)
    · rcases List.mem_cons.mp ((h k).mp (List.mem_cons_of_mem _ hk)) with e | e
      · have := a1 k hk; omega
      · exact e
    · rcases List.mem_cons.mp ((h k).mpr (List.mem_cons_of_mem _ hk)) with e | e
      · have := b1 k hk; omega
      · exact e
def gSortB : D → M D
  | .tup ds => match intsD ds with
    | some ns => if ns.length < 64 then M.pure (.lst ((sortI ns).map D.int)) else M.bad
    | none => sortSD ds
  | d => gSortS d
section
variable {X : Cx} {cl : Cls_} {E : WX} {e : Expr} {fe : Env → M D} {p p2 p3 pos : Pos}
theorem de_sortSetB (hc : X.calm = true) (hu : X.A.units + 64 < cLine) (m1 : X.mg "sorted" = none) (m2 : X.mg "set" = none) (he : DE X cl E e fe) (g1 : Gl X "sorted" := by rfl) (g2 : Gl X "set" := by rfl)
    (a1 : starEach [.Call (.Name "set" p2) [e] [] p3] X.env = (false, eval (.Call (.Name "set" p2) [e] [] p3) X.env) :: starEach [] X.env := by rfl) (b1 : (backTo pos (starEach ([] : List Expr) X.env)).any (·.1) = false := by rfl)
    (a2 : starEach [e] X.env = (false, eval e X.env) :: starEach [] X.env := by rfl) (b2 : (backTo p3 (starEach ([] : List Expr) X.env)).any (·.1) = false := by rfl) : DE X cl E (.Call (.Name "sorted" p) [.Call (.Name "set" p2) [e] [] p3] [] pos) (c1 gSortB fe) := by
  have inner := pe_callTy (x := "set") (p := p2) (pos := p3) (CallR.or (cr_setA hc hu) (cr_setTI hc)) g2 m2 (by decide +kernel) (pa_cons he pa_nil a2) (by decide) (by decide) a2 b2
  refine pe_imp (pe_callB (CallR.or (cr_sortS hc) (cr_sortedSet hc)) g1 m1 (by decide +kernel) (pa_cons inner pa_nil a1) (by decide) (by decide) a1 b1) fun σ H Q h => ?_
  refine tE_bind h fun W0 H0 W1 H1 S1 ρ own x dx ev rx h1 => ?_
  have main : ∀ (l : Addr) (vs : List V) (ds : List D), x = .ref l → (SqL X.K H1 l vs ∨ SqT X.K H1 l vs) → RpA ⟨X.K, cl⟩ W1 H1 vs ds → Po ⟨X.K, cl⟩ E σ W1 H1 (sortSD ds S1) (RV ⟨X.K, cl⟩ Q) →
      rSetA X.K X.prog X.w [x] H1 (fun y H2 => rSortS X.K X.prog X.w [y] H2 Q ∨ rSortedSet X.w [y] H2 Q) := by
    intro l vs ds ex hl ra h1
    unfold sortSD at h1
    cases q : keysD ds with
    | none => rw [q] at h1; exact h1.elim
    | some ks =>
      rw [q] at h1
      obtain ⟨⟨few, ek⟩, h1⟩ := po_if h1
      obtain ⟨d, d1, dl⟩ := evenK_of ek
      obtain ⟨ps, rfl, rfl, hp⟩ := ra.keysOf q
      refine ⟨l, ps, by rw [ex], hl, fun z hz => (hp z hz).sq, by simpa using few, fun a L ha sub all => .inl ?_⟩
      have sm : Same H1 (upd H1 a (SetTO X.prog X.w a L)) := Same.new ha
      refine ⟨a, L, d, rfl, upd_same, fun z hz => sq_same (hp z (sub z hz)).sq sm, d1, fun z hz => dl _ (List.mem_map.mpr ⟨z, sub z hz, rfl⟩), fun M p pm nd od fr => ?_⟩
      have w2 := ev.wk.same sm
      have s2 := ev.st.same sm
      have h2 := Po.step ev.wk (Le.same sm) h1
      have eM : M.map (·.2) = SO.sortS (ps.map (·.2)) := by
        refine SO.set_sorted nd (List.pairwise_map.mpr od) fun z => ⟨fun hz => ?_, fun hz => ?_⟩
        · obtain ⟨u, hu, rfl⟩ := List.mem_map.mp hz
          exact List.mem_map.mpr ⟨u, sub u (pm.mem_iff.mp hu), rfl⟩
        · obtain ⟨u, hu, rfl⟩ := List.mem_map.mp hz
          exact (pm.map (·.2)).mem_iff.mpr (all u hu)
      rw [← eM] at h2
      refine Po.new w2 s2 h2 fr (Rp.newLst w2 fr (rp_tups fun z hz => ?_))
      have := hp z (sub z (pm.mem_iff.mp hz))
      rcases this with ⟨r, nb⟩ | r
      · refine .inl ⟨?_, nb⟩
        rcases r with r | ⟨o, r⟩
        · exact .inl (sm _ _ r)
        · exact .inr ⟨o, sm _ _ r⟩
      · exact .inr r
  cases dx with
  | lst ds =>
    cases rx with
    | @lst l vs _ hl _ ra => exact .inl (main l vs ds rfl (.inl (.inl (.inl hl))) ra h1)
  | tup ds =>
    cases rx with
    | @tup l vs _ hl ra =>
      unfold gSortB at h1
      dsimp only at h1
      cases q : intsD ds with
      | none => rw [q] at h1; exact .inl (main l vs ds rfl (.inr hl.sq) ra h1)
      | some ns =>
        rw [q] at h1
        obtain ⟨few, h1⟩ := po_if h1
        obtain ⟨rfl, _⟩ := ra.intsOf q
        refine .inr ⟨l, ns, rfl, hl.sq, few, fun a c ha hn => .inr ⟨a, fun j => decide (j ∈ ns), c, rfl, upd_same, by omega, fun ms p pw mm ml fr => ?_⟩⟩
        have sm : Same H1 (upd H1 a (SetO X.w a (fun j => decide (j ∈ ns)) c)) := Same.new ha
        have w2 := ev.wk.same sm
        have s2 := ev.st.same sm
        have h2 := Po.step ev.wk (Le.same sm) h1
        have eM : sortI ns = ms := pw_uniq sortI_pw pw fun k => by rw [sortI_mem, mm k, decide_eq_true_eq]
        rw [eM] at h2
        exact Po.new w2 s2 h2 fr (Rp.newLst w2 fr (rp_ints ms))
  | _ => exact h1.elim
end
end DN
/-! DO16: match. -/
namespace DN
open PySem PySem.Spec PyProof.Rows L2 SeqAt
abbrev Mt := Option (Option (List (Nat × D)))
def setAllE : List (Nat × D) → Env → Env
  | [], ρ => ρ
  | (i, d) :: bs, ρ => setAllE bs (ρ.set i (.val d))
inductive Bs (X : Cx) (cl : Cls_) (W : Wd) (H : Hp) : List (Nat × D) → List (Str × Value) → Prop
  | nil : Bs X cl W H [] []
  | cons {i : Nat} {x : Str} {d : D} {v : V} {u : Value} {bs : List (Nat × D)} {bu : List (Str × Value)} : X.N[i]? = some x → Loc X.env.scope x → (X.fn x = true ∨ X.env.scope.names.lookup x = some .local) → Rp ⟨X.K, cl⟩ W H v d → RelV v u → Bs X cl W H bs bu → Bs X cl W H ((i, d) :: bs) ((x, u) :: bu)
def PMw (X : Cx) (cl : Cls_) (pins : List (Addr × Obj)) (σ : L2.St) (H : Hp) (W : Wd) (r : Option (List (Nat × D))) (Q : Option (List (Str × Value)) → Shared → Prop) : Prop := match r with
  | none => ∀ s', Inv X pins σ H s' → Q none s'
  | some bs => ∀ s' bu, Inv X pins σ H s' → Bs X cl W H bs bu → Q (some bu) s'
structure PM (X : Cx) (cl : Cls_) (p : Pattern) (m : D → Mt) : Prop where
  run : ∀ (pins : List (Addr × Obj)) (s : Shared) (σ : L2.St) (H : Hp) (W : Wd) (v : V) (d : D) (u : Value) (r : Option (List (Nat × D))) (Q : Option (List (Str × Value)) → Shared → Prop), Inv X pins σ H s → Rp ⟨X.K, cl⟩ W H v d → RelV v u → m d = some r → PMw X cl pins σ H W r Q →
    wpAny (model X.prog X.w) X.A (matchPattern p X.env u) Q X.xe s
structure PMs (X : Cx) (cl : Cls_) (ps : List Pattern) (m : List D → Mt) : Prop where
  run : ∀ (pins : List (Addr × Obj)) (s : Shared) (σ : L2.St) (H : Hp) (W : Wd) (vs : List V) (ds : List D) (us : List Value) (r : Option (List (Nat × D))) (Q : Option (List (Str × Value)) → Shared → Prop), Inv X pins σ H s → RpA ⟨X.K, cl⟩ W H vs ds → Vals vs us → m ds = some r → PMw X cl pins σ H W r Q →
    wpAny (model X.prog X.w) X.A (matchEach ps X.env us) Q X.xe s
def mVal (z : D) : D → Mt := fun d => (eqN 50 d z).map fun b => if b then some [] else none
def mOr (m1 m2 : D → Mt) : D → Mt := fun d => match m1 d with
  | some (some _) => some (some [])
  | some none => (m2 d).map fun r => r.map fun _ => []
  | none => none
def mCap (i : Nat) : D → Mt := fun d => some (some [(i, d)])
def mNil : List D → Mt := fun ds => match ds with
  | [] => some (some [])
  | _ => none
def mCons (m : D → Mt) (ms : List D → Mt) : List D → Mt := fun ds => match ds with
  | [] => none
  | d :: ds => match m d with
    | none => none
    | some none => some none
    | some (some bs) => (ms ds).map fun r => r.map fun more => bs ++ more
def mSeq (n : Nat) (ms : List D → Mt) : D → Mt := fun d => match d with
  | .tup xs => if xs.length = n then ms xs else some none
  | _ => none
section
variable {X : Cx} {cl : Cls_} {W : Wd} {H : Hp}
theorem Bs.app : ∀ {bs cs : List (Nat × D)} {bu cu : List (Str × Value)}, Bs X cl W H bs bu → Bs X cl W H cs cu → Bs X cl W H (bs ++ cs) (bu ++ cu)
  | _, _, _, _, .nil, h => h
  | _, _, _, _, .cons a b c r e t, h => .cons a b c r e (t.app h)
theorem pm_val {x : Str} {j : Nat} {p1 pos : Pos} (hu : X.A.units + 64 < cLine) : PM X cl (.MatchValue (.Constant (.str x) j p1) pos) (mVal (.str x)) := by
  refine ⟨fun pins s σ H W v d u r Q I rv ru e q => wpAny_matchPattern_Value ?_⟩
  unfold mVal at e
  obtain ⟨b, e1, e2⟩ := Option.map_eq_some_iff.mp e
  refine thn ((pe_str (X := X) (x := x) (j := j) (pos := p1)).run pins s σ H (fun v' H' => v' = .str x ∧ H' = H) I ⟨rfl, rfl⟩) fun w s1 ⟨y, H1, I1, ry, ey, eH⟩ => ?_
  subst ey
  subst eH
  refine thn (op_eqN hu pins s1 σ _ v (.str x) u w (fun v' H' => v' = .bl b ∧ H' = H1) I1 ru ry ⟨cl, W, d, .str x, b, rv, .str x, e1, rfl, rfl⟩) fun w s2 ⟨z, H2, I2, rz, ez, eH⟩ => ?_
  subst ez
  subst eH
  obtain rfl : w = Value.bool b := rz
  refine wpAny_truthy_bool ?_
  cases b with
  | true => cases e2; exact q s2 [] I2 .nil
  | false => cases e2; exact q s2 I2
theorem pm_cap {i : Nat} {x : Str} {pos : Pos} (hi : X.N[i]? = some x := by rfl) (hx : Loc X.env.scope x := by first | exact Or.inl rfl | exact Or.inr rfl) (hf : X.fn x = true ∨ X.env.scope.names.lookup x = some .local := by first | exact .inl rfl | exact .inr rfl) : PM X cl (.MatchAs none (some x) pos) (mCap i) := by
  refine ⟨fun pins s σ H W v d u r Q I rv ru e q => wpAny_matchPattern_Capture ?_⟩
  cases e
  exact q s [(x, u)] I (.cons hi hx hf rv ru .nil)
theorem pm_or {p1 p2 : Pattern} {m1 m2 : D → Mt} {pos : Pos} (h1 : PM X cl p1 m1) (h2 : PM X cl p2 m2) (hn : namesOfAll [p1] = [] := by rfl) : PM X cl (.MatchOr [p1, p2] pos) (mOr m1 m2) := by
  refine ⟨fun pins s σ H W v d u r Q I rv ru e q => wpAny_matchPattern_Or (wpAny_matchFirst_cons ?_)⟩
  have en : ∀ bs : List (Str × Value), ((namesOfAll ([p1, p2].take 1)).filterMap fun n => (bs.lookup n).map (n, ·)) = [] := fun bs => by
    show ((namesOfAll [p1]).filterMap _) = []
    rw [hn]; rfl
  unfold mOr at e
  cases e1 : m1 d with
  | none => rw [e1] at e; cases e
  | some r1 =>
    rw [e1] at e
    cases r1 with
    | some bs =>
      cases e
      refine h1.run pins s σ H W v d u (some bs) _ I rv ru e1 fun s' bu I' b => ?_
      dsimp only
      rw [en]
      exact q s' [] I' .nil
    | none =>
      refine h1.run pins s σ H W v d u none _ I rv ru e1 fun s' I' => ?_
      dsimp only
      dsimp only at e
      obtain ⟨r2, e2, e3⟩ := Option.map_eq_some_iff.mp e
      refine wpAny_matchFirst_cons (h2.run pins s' σ H W v d u r2 _ I' rv ru e2 ?_)
      cases r2 with
      | none => cases e3; exact fun s2 I2 => wpAny_matchFirst_nil (q s2 I2)
      | some bs =>
        cases e3
        intro s2 bu I2 b
        dsimp only
        rw [en]
        exact q s2 [] I2 .nil
theorem pms_nil : PMs X cl [] mNil := by
  refine ⟨fun pins s σ H W vs ds us r Q I ra ru e q => ?_⟩
  cases ra with
  | nil =>
    cases ru
    cases e
    exact wpAny_matchEach_nil (q s [] I .nil)
  | cons _ _ => cases e
theorem pms_cons {p : Pattern} {ps : List Pattern} {m : D → Mt} {ms : List D → Mt} (h1 : PM X cl p m) (h2 : PMs X cl ps ms) (hp : p.isStar = false := by rfl) : PMs X cl (p :: ps) (mCons m ms) := by
  refine ⟨fun pins s σ H W vs ds us r Q I ra ru e q => ?_⟩
  cases ra with
  | nil => cases e
  | @cons v vs d ds r1 r2 =>
    cases ru with
    | cons u1 u2 =>
      refine wpAny_matchEach_cons ?_ hp
      have e : (match m d with | none => none | some none => some none | some (some bs) => (ms ds).map fun r => r.map fun more => bs ++ more) = some r := e
      cases e1 : m d with
      | none => rw [e1] at e; cases e
      | some x =>
        rw [e1] at e
        cases x with
        | none =>
          cases e
          exact h1.run pins s σ H W v d _ none _ I r1 u1 e1 fun s' I' => q s' I'
        | some bs =>
          dsimp only at e
          obtain ⟨x2, e2, e3⟩ := Option.map_eq_some_iff.mp e
          refine h1.run pins s σ H W v d _ (some bs) _ I r1 u1 e1 fun s' bu I' b => ?_
          dsimp only
          refine h2.run pins s' σ H W vs ds _ x2 _ I' r2 u2 e2 ?_
          cases x2 with
          | none => cases e3; exact fun s2 I2 => q s2 I2
          | some more => cases e3; exact fun s2 bu2 I2 b2 => q s2 (bu ++ bu2) I2 (b.app b2)
theorem pm_seq {ps : List Pattern} {ms : List D → Mt} {n : Nat} {pos : Pos} (hc : X.calm = true) (h : PMs X cl ps ms) (hn : ps.length = n := by rfl) (hstar : ps.findIdx? (·.isStar) = none := by rfl)
    (hwild : (ps.all fun p => p.isWildcard || (p.isStar && p.names.isEmpty)) = false := by rfl) : PM X cl (.MatchSequence ps pos) (mSeq n ms) := by
  refine ⟨fun pins s σ H W v d u r Q I rv ru e q => ?_⟩
  cases d with
  | tup xs =>
    unfold mSeq at e
    dsimp only at e
    cases rv with
    | @tup a vs _ ha ra =>
      obtain rfl : u = Value.ref a := ru
      obtain ⟨its, rv, ht, hz⟩ := I.tuple ha.sq
      have hl : its.toArray.size = xs.length := by rw [List.size_toArray, ← rv.length, ra.length]
      have hfit : (its.toArray.size : Int) < 2 ^ 63 := by
        rw [List.size_toArray, ← rv.length]
        have := sizeLine_eq
        omega
      by_cases c : xs.length = n
      · rw [if_pos c] at e
        refine matchSeq_tuple_hit ht hfit (by rw [hl, c, hn]) ?_ hstar hwild
        rw [show ps.length = its.toArray.size from by rw [hl, c, hn]]
        refine wpAny_unpackItems_tuple (I.ok.hd hc) ht fun h' hx => ?_
        have I1 : Inv X pins σ H { s with heap := h', toks := s.toks + 1 + 1 } := I.kept (t' := s.toks + 1 + 1) fun b o e => hx b o (Nat.ne_of_lt (Heap.lt_size e)) e
        exact h.run pins _ σ H W vs xs _ r Q I1 ra (by simpa using rv) e q
      · rw [if_neg c] at e
        cases e
        exact matchSeq_tuple_miss ht hfit (by rw [hl, hn]; exact c) (q _ (I.tok _)) hstar hwild
  | _ => cases e
/-- the names are bound -/
theorem bind_bs {W0 : Wd} {H0 : Hp} {S : Store} {pins : List (Addr × Obj)} (hN : X.N.Nodup) {Q : Unit → Shared → Prop} : ∀ {bs : List (Nat × D)} {bu : List (Str × Value)} {s : Shared} {σ : L2.St} {ρ : Env} {own : Nat → Option Addr}, Bs X cl W H bs bu → Inv X pins σ H s → Ev ⟨X.K, cl⟩ W0 H0 W H S σ ρ own →
    (∀ s' σ' own', Inv X pins σ' H s' → Ev ⟨X.K, cl⟩ W0 H0 W H S σ' (setAllE bs ρ) own' → Q () s') → wpAny (model X.prog X.w) X.A (assignInOrder (bu.map fun (n, _) => bindName X.env n) (bu.map (·.2))) Q X.xe s
  | _, _, s, σ, ρ, own, .nil, I, ev, q => assignInOrder_nil (q s σ own I ev)
  | _, _, s, σ, ρ, own, .cons a b c r e t, I, ev, q => by
    refine assignInOrder_cons (wpAny_bindName (store_ok I hN a b e (fun s' I' => ?_) c))
    exact bind_bs hN t I' (ev.set r) q
def kNil : D → Sm := fun _ => cNext
def kCons (m : D → Mt) (fb : Sm) (fr : D → Sm) : D → Sm := fun d ρ S => match m d with
  | none => .bad
  | some none => fr d ρ S
  | some (some bs) => fb (setAllE bs ρ) S
structure PCs (X : Cx) (cl : Cls_) (E : WX) (cases : List MatchCase) (f : D → Sm) : Prop where
  run : ∀ (pins : List (Addr × Obj)) (s : Shared) (σ : L2.St) (H : Hp) (Dn : Ends) (W0 : Wd) (H0 : Hp) (W : Wd) (S : Store) (ρ : Env) (own : Nat → Option Addr) (v : V) (d : D) (u : Value) (b : Bool), Inv X pins σ H s → Ev ⟨X.K, cl⟩ W0 H0 W H S σ ρ own → Rp ⟨X.K, cl⟩ W H v d → RelV v u → PoS ⟨X.K, cl⟩ E W0 H0 W H (f d ρ S) (wF ⟨X.K, cl⟩ Dn) →
    wpAny (model X.prog X.w) X.A (matchCases cases X.env u b) (SP X pins Dn) X.xe s
def cMatch (fe : Env → M D) (f : D → Sm) : Sm := fun ρ S => onE (fe ρ S) ρ fun d S1 => f d ρ S1
variable {E : WX}
theorem pcs_nil : PCs X cl E [] kNil := ⟨fun pins s σ H Dn W0 H0 W S ρ own v d u b I ev rv ru h => wpAny_matchCases_nil ⟨σ, H, I, h W H σ own Lw.refl ev⟩⟩
theorem pcs_cons {p : Pattern} {body : List Stmt} {rest : List MatchCase} {m : D → Mt} {fb : Sm} {fr : D → Sm} (hN : X.N.Nodup) (h1 : PM X cl p m) (h2 : DSs X cl E body fb) (h3 : PCs X cl E rest fr) : PCs X cl E (⟨p, none, body⟩ :: rest) (kCons m fb fr) := by
  refine ⟨fun pins s σ H Dn W0 H0 W S ρ own v d u b I ev rv ru h => wpAny_matchCases_cons ?_⟩
  unfold kCons at h
  cases e : m d with
  | none => rw [e] at h; exact h.elim
  | some r =>
    rw [e] at h
    cases r with
    | none => exact h1.run pins s σ H W v d u none _ I rv ru e fun s' I' => h3.run pins s' σ H Dn W0 H0 W S ρ own v d u false I' ev rv ru h
    | some bs =>
      refine h1.run pins s σ H W v d u (some bs) _ I rv ru e fun s' bu I' hb => ?_
      dsimp only
      refine bind_bs hN hb I' ev fun s2 σ2 own2 I2 ev2 => ?_
      exact h2.run pins s2 σ2 H Dn I2 ⟨W0, H0, W, S, _, own2, ev2, h⟩
theorem ds_match {e : Expr} {cases : List MatchCase} {fe : Env → M D} {f : D → Sm} {pos : Pos} (he : DE X cl E e fe) (hc : PCs X cl E cases f) : DS X cl E (.Match e cases pos) (cMatch fe f) := by
  refine ⟨fun pins s σ H Dn I ⟨W0, H0, W, S, ρ, own, ev, h⟩ => ?_⟩
  have h2 : tE ⟨X.K, cl⟩ E fe σ H (fun v H1 => ∃ W1 S1 d, Ev ⟨X.K, cl⟩ W0 H0 W1 H1 S1 σ ρ own ∧ Rp ⟨X.K, cl⟩ W1 H1 v d ∧ PoS ⟨X.K, cl⟩ E W0 H0 W1 H1 (f d ρ S1) (wF ⟨X.K, cl⟩ Dn)) := ⟨W0, H0, W, S, ρ, own, ev, (PoS.onE ev h).imp fun d S1 W1 H1 l w s hh v rv => ⟨W1, S1, d, ev.mono l w s, rv, hh⟩⟩
  refine wpAny_Match (thn (he.run pins s σ H _ I h2) fun u s1 ⟨v, H1, I1, rv, W1, S1, d, ev1, rd, q⟩ => ?_)
  exact hc.run pins s1 σ H1 Dn W0 H0 W1 S1 ρ own v d u true I1 ev1 rd rv q
end
end DN
/-! DO17: a list of one's own that is popped: a cell of the store. -/
namespace DN
open PySem PySem.Spec PyProof.Rows L2
def gListM : List D → M D
  | [.tup xs] => fun S => .ok (.mut S.length) (S ++ [.lst xs])
  | [.lst xs] => fun S => .ok (.mut S.length) (S ++ [.lst xs])
  | _ => M.bad
def gLenM : List D → M D
  | [.mut n] => fun S => match S[n]? with
    | some (.lst xs) => .ok (.int xs.length) S
    | _ => .bad
  | ds => gLen ds
def gPop (o i : D) : M D := match o, i with
  | .mut n, .int k => fun S => match S[n]? with
    | some (.lst xs) => if 0 ≤ k ∧ k < 1073741824 then (match xs[k.toNat]? with
      | some d => .ok d (S.set n (.lst (xs.eraseIdx k.toNat)))
      | none => .bad) else .bad
    | _ => .bad
  | _, _ => M.bad
def isLc (S : Store) (n : Nat) : Bool := match S[n]? with
  | some (.lst _) => true
  | _ => false
def cPop (fo fe : Env → M D) : Env → M D := fun ρ => do
  let o ← fo ρ
  match o with
  | .mut n => fun S => if isLc S n = true then (fe ρ >>= fun i => gPop (.mut n) i) S else .bad
  | _ => M.bad
theorem RpA.erase {G : Gx} {W : Wd} {H : Hp} : ∀ {vs : List V} {ds : List D} (n : Nat), RpA G W H vs ds → RpA G W H (vs.eraseIdx n) (ds.eraseIdx n)
  | _, _, _, .nil => .nil
  | _, _, 0, .cons _ t => t
  | _, _, n + 1, .cons r t => .cons r (t.erase n)
section
variable {X : Cx} {cl : Cls_} {E : WX} {K : PySem.W.Frag} {o e : Expr} {fo fe : Env → M D} {pos : Pos}
theorem cd_listM : CallD K cl (fun xs H Q => ∃ p ys, xs = [.ref p] ∧ (SqL K H p ys ∨ SqT K H p ys) ∧ ∀ l, H l = none → Q (.ref l) (upd H l (.lst ys))) gListM := by
  intro E σ W H S vs ds Q w s r h
  have fin : ∀ {ys : List V} {xs : List D} {l : Addr}, RpA ⟨K, cl⟩ W H ys xs → H l = none → Po ⟨K, cl⟩ E σ W H (.ok (.mut S.length) (S ++ [.lst xs])) (RV ⟨K, cl⟩ Q) → Q (.ref l) (upd H l (.lst ys)) := fun {ys xs l} ra hl h => by
    obtain ⟨W', l', w', s', e⟩ := new_cell (c := .lst xs) w s hl fun W' lw => ⟨ys, upd_same, ra.mono lw⟩
    exact h W' _ l' w' s' _ (.mut e)
  match ds, h with
  | [.tup xs], h =>
    obtain ⟨v, rfl, rv⟩ := r.inv1
    cases rv with
    | tup ha ra => exact ⟨_, _, rfl, .inr ha.sq, fun l hl => fin ra hl h⟩
  | [.lst xs], h =>
    obtain ⟨v, rfl, rv⟩ := r.inv1
    cases rv with
    | lst ha _ ra => exact ⟨_, _, rfl, .inl (SqL.of ha), fun l hl => fin ra hl h⟩
theorem cd_lenM : CallD K cl (fun xs H Q => ∃ x n, xs = [x] ∧ LenV K x H n ∧ Q (.int n) H) gLenM := by
  intro E σ W H S vs ds Q w s r h
  unfold gLenM at h
  split at h
  · rename_i n
    obtain ⟨v, rfl, rv⟩ := r.inv1
    cases q : S[n]? with
    | none => rw [q] at h; exact h.elim
    | some c =>
      rw [q] at h
      cases c with
      | lst xs =>
        obtain ⟨a, e1, vs, e2, ra⟩ := s.at_ n _ q
        cases rv with
        | «mut» e0 =>
          rw [e1] at e0; cases e0
          exact ⟨_, xs.length, rfl, .inl ⟨_, SqL.of e2, ra.length.symm⟩, Po.val w s h (.int _)⟩
      | _ => exact h.elim
  · exact cd_len E σ W H S vs _ Q w s r h
theorem de_pop {apos : Pos} (ho : DE X cl E o fo) (he : DE X cl E e fe)
    (hbase : attributeBase o "pop" X.env (eval o X.env) = eval o X.env := by rfl)
    (hfew : ((backTo pos (starEach (e :: []) X.env)).all (fun x => !x.1) && (backToKw pos (keywordEach [] X.env)).all (fun x => x.1.isSome)
      && decide ((e :: ([] : List Expr)).length + ([] : List Keyword).length + (if ([] : List Keyword).isEmpty then 0 else 1) < 30)) = true := by rfl)
    (hline : (apos.endLine == pos.line) = true := by rfl) (hs : starEach (e :: []) X.env = (false, eval e X.env) :: starEach [] X.env := by rfl) (hplain : (backTo pos (starEach ([] : List Expr) X.env)).any (·.1) = false := by rfl) :
    DE X cl E (.Call (.Attribute o "pop" apos) [e] [] pos) (cPop fo fe) := by
  refine pe_imp (pe_bm PySem.F.plainAttrs_list PySem.F.slot_list_pop PySem.F.type_list_pop mt_popAt ho (pa_cons he pa_nil hs) hbase hfew hline hs hplain) fun σ H Q h => ?_
  refine tE_bind h fun W0 H0 W1 H1 S1 ρ own x dx ev rx h1 => ?_
  cases dx with
  | «mut» n =>
    dsimp only at h1
    by_cases c : isLc S1 n = true
    · rw [if_pos c] at h1
      obtain ⟨xs0, q0⟩ : ∃ xs0, S1[n]? = some (.lst xs0) := by
        unfold isLc at c
        cases q : S1[n]? with
        | none => rw [q] at c; cases c
        | some cc =>
          rw [q] at c
          cases cc with
          | lst xs => exact ⟨xs, rfl⟩
          | _ => cases c
      obtain ⟨a, e1, vs0, e2, ra0⟩ := ev.st.at_ n _ q0
      cases rx with
      | «mut» e0 =>
        rw [e1] at e0; cases e0
        refine ⟨.inl ⟨rfl, vs0, SqL.of e2⟩, W0, H0, W1, S1, ρ, own, ev, (Po.bind ev.wk h1).imp fun di S2 W2 H2 l w s h2 iv riv => ?_⟩
        cases di with
        | int k =>
          unfold gPop at h2
          dsimp only at h2
          cases q : S2[n]? with
          | none => rw [q] at h2; exact h2.elim
          | some cc =>
            rw [q] at h2
            cases cc with
            | lst xs =>
              dsimp only at h2
              by_cases ck : 0 ≤ k ∧ k < 1073741824
              · rw [if_pos ck] at h2
                cases qd : xs[k.toNat]? with
                | none => rw [qd] at h2; exact h2.elim
                | some d =>
                  rw [qd] at h2
                  obtain ⟨a', e1', vs, e2', ra⟩ := s.at_ n _ q
                  rw [l.ph _ _ e1] at e1'
                  cases e1'
                  cases riv
                  obtain ⟨y, hy, ry⟩ := ra.get qd
                  have hlt : k.toNat < vs.length := (List.getElem?_eq_some_iff.mp hy).1
                  refine ⟨a, vs, k, k.toNat, y, rfl, rfl, e2', by omega, by omega, ?_, hy, ?_⟩
                  · unfold seqIndex?
                    have c1 : ¬ k < 0 := by omega
                    simp only [if_neg c1]
                    rw [if_pos (by simp; omega)]
                  · obtain ⟨l4, w4, s4⟩ := put_cell (o := .lst (vs.eraseIdx k.toNat)) (c := .lst (xs.eraseIdx k.toNat)) w s (l.ph _ _ e1) (List.getElem?_eq_some_iff.mp q).1 fun lw => ⟨_, upd_same, (ra.mono lw).erase k.toNat⟩
                    exact h2 W2 _ l4 w4 s4 y (ry.mono (l4.lw w))
              · rw [if_neg ck] at h2; exact h2.elim
            | _ => exact h2.elim
        | _ => exact h2.elim
    · rw [if_neg c] at h1; exact h1.elim
  | _ => exact h1.elim
end
end DN
/-! DO18: f-strings of texts and ints. -/
namespace DN
open PySem PySem.Spec PyProof.Rows L2
def gFmt : D → M D
  | .str y => if y.length ≤ 16777216 then M.pure (.str y) else M.bad
  | .int i => if i.natAbs.log2 < 1920 then M.pure (.str (toString i)) else M.bad
  | _ => M.bad
def cJs : List (Env → M D) → Str → Env → M D
  | [], acc => fun _ => M.pure (.str acc)
  | f :: fs, acc => fun ρ => do
    let d ← f ρ
    match d with
    | .str y => if (acc ++ y).length ≤ 16777216 then cJs fs (acc ++ y) ρ else M.bad
    | _ => M.bad
inductive DJ (X : Cx) (cl : Cls_) (E : WX) : List Expr → List (Env → M D) → Prop
  | nil : DJ X cl E [] []
  | cons {e : Expr} {f : Env → M D} {es : List Expr} {fs : List (Env → M D)} (h : DE X cl E e f) (r : DJ X cl E es fs) : DJ X cl E (e :: es) (f :: fs)
section
variable {X : Cx} {cl : Cls_} {E : WX}
theorem de_fmt {e : Expr} {fe : Env → M D} {pos : Pos} (he : DE X cl E e fe) : DE X cl E (.FormattedValue e (-1) none pos) (c1 gFmt fe) := by
  refine pe_imp (pe_fmt he) fun σ H Q h => tE_bind h fun W0 H0 W1 H1 S1 ρ own x dx ev rx h1 => ?_
  cases dx with
  | str y =>
    cases rx
    obtain ⟨c, h1⟩ := po_if h1
    exact .inl ⟨y, rfl, isline c, Po.val ev.wk ev.st h1 (.str y)⟩
  | int i =>
    cases rx
    obtain ⟨c, h1⟩ := po_if h1
    exact .inr ⟨i, rfl, c, Po.val ev.wk ev.st h1 (.str _)⟩
  | _ => exact h1.elim
theorem DJ.pj {es : List Expr} {fs : List (Env → M D)} (h : DJ X cl E es fs) : PJ X es (fs.map (tE ⟨X.K, cl⟩ E)) := by
  induction h with
  | nil => exact .nil
  | cons h _ ih => exact .cons h ih
theorem tJs_of {Q : VK} {σ : L2.St} : ∀ (fs : List (Env → M D)) (acc : Str) (H : Hp), tE ⟨X.K, cl⟩ E (cJs fs acc) σ H Q → tJs (fs.map (tE ⟨X.K, cl⟩ E)) acc σ H (fun out H1 => Q (.str out) H1)
  | [], acc, H, ⟨W0, H0, W, S, ρ, own, ev, h⟩ => Po.val ev.wk ev.st h (.str acc)
  | f :: fs, acc, H, h => by
    show tE ⟨X.K, cl⟩ E f σ H _
    refine tE_bind (k := fun ρ d => match d with | .str y => if (acc ++ y).length ≤ 16777216 then cJs fs (acc ++ y) ρ else M.bad | _ => M.bad) h fun W0 H0 W1 H1 S1 ρ own x dx ev rx h1 => ?_
    cases dx with
    | str y =>
      cases rx
      obtain ⟨c, h1⟩ := po_if h1
      exact ⟨y, rfl, isline c, tJs_of fs (acc ++ y) H1 ⟨W0, H0, W1, S1, ρ, own, ev, h1⟩⟩
    | _ => exact h1.elim
theorem de_joined {v1 v2 : Expr} {rest : List Expr} {fs : List (Env → M D)} {pos : Pos} (h : DJ X cl E (v1 :: v2 :: rest) fs) : DE X cl E (.JoinedStr (v1 :: v2 :: rest) pos) (cJs fs Str.empty) :=
  pe_imp (pe_joined h.pj) fun σ H Q hq => tJs_of fs Str.empty H hq
end
end DN
/-! DO19: what is asked of the written part about classes with instances, as truth values. -/
namespace DN
open PySem PySem.Spec PyProof.Rows L2
def insB (K : PySem.W.Frag) (C : Addr) : Bool :=
  PySem.W.plainGet K C Str.empty && (PySem.W.hasDictIn K C && (PySem.W.plainOver K C && ((PySem.W.findIn K (.ref C) "__setattr__" == some (some (.builtin "object.__setattr__"))) && ((PySem.W.findIn K (.ref C) "__class__" == some (some (.builtin "object.__class__"))) &&
    ((PySem.W.specialIn K (.builtin "object.__class__") "__get__" == some (some (.builtin "getset_descriptor.__get__"))) && ((PySem.W.takesIn K (.builtin "object.__class__") == some true) && ((PySem.W.mroIn K C (.type "object") == some true) && (PySem.W.makesIn K C && PySem.W.keepIn K (.ref C)))))))))
structure InsA (K : PySem.W.Frag) (C : Addr) : Prop where
  k : InsK K C
  makes : PySem.W.makesIn K C = true
  kp : PySem.W.keepIn K (.ref C) = true
theorem insB_ok {K : PySem.W.Frag} {C : Addr} (h : insB K C = true) : InsA K C := by
  simp only [insB, Bool.and_eq_true, beq_iff_eq] at h
  obtain ⟨h1, h2, h3, h4, h5, h6, h7, h8, h9, h10⟩ := h
  exact ⟨⟨⟨h1, h2, h3, h4⟩, h5, h6, h7, h8⟩, h9, h10⟩
def fldIB (K : PySem.W.Frag) (C : Addr) (fs : List Str) : Bool := fs.all fun f => PySem.W.findIn K (.ref C) f == some none
def insTB (K : PySem.W.Frag) (u : Value) (tab : List (Str × Bool)) : Bool := (tab.all fun p => onCls K p.1 fun C => insB K C && (PySem.W.kitOne K (.ref C) u == some p.2)) && tyNames.all fun t => PySem.W.kitOne K (.type t) u == some false
def notFB (K : PySem.W.Frag) (C : Addr) : Bool := ["NoneType", "str", "tuple"].all fun T => PySem.W.notFirst K C (.type T)
def cF (n : Nat) (F : List D → M D) : List D → M D := fun ds => if ds.length = n then F ds else M.bad
section
variable {P : Program} {w : World} {K : PySem.W.Frag} {h : Heap} {mg : Str → Option Value} {base : Heap} {TT : List (Addr × Str)} {c m f : Str} {C g p : Addr} {k : Nat} {F : List D → M D}
theorem clN_of (e : PySem.W.nsIn K mainGlobals c = some (some (.ref C))) : clN K c = some C := by unfold clN; rw [e]
theorem fldI_one {fs : List Str} (A : InsA K C) (e : PySem.W.nsIn K mainGlobals c = some (some (.ref C))) (hb : fldIB K C fs = true) (hf : fs.contains f = true) : FldI K ⟨clN K, TT⟩ f [c] := ⟨fun c' hc => by
  have : c' = c := by simpa using hc
  subst this
  exact ⟨C, clN_of e, A.k.cl, beq_iff_eq.mp (List.all_eq_true.mp hb f (List.contains_iff_mem.mp hf))⟩⟩
theorem isI_ok {x : Str} {tab : List (Str × Bool)} (X : K.In h) (G : h.Ns mainGlobals mg) (e : PySem.W.nsIn K mainGlobals x = some (some (.ref C))) (hb : insTB K (.ref C) tab = true) : IsI K mg ⟨clN K, TT⟩ x tab := by
  unfold insTB at hb
  rw [Bool.and_eq_true, List.all_eq_true, List.all_eq_true] at hb
  refine ⟨.ref C, .ref C, .own C, ⟨C, PySem.W.mg_of X G e, rfl⟩, fun k b q => ?_, fun t ht => beq_iff_eq.mp (hb.2 t ht)⟩
  obtain ⟨C', e1, e2⟩ := onCls_ok (hb.1 _ (lookup_memS q))
  rw [Bool.and_eq_true, beq_iff_eq] at e2
  exact ⟨C', e1, (insB_ok e2.1).k, e2.2⟩
theorem mkI_of (X : K.In h) (G : h.Ns mainGlobals mg) (A : InsA K C) (e : PySem.W.nsIn K mainGlobals c = some (some (.ref C))) (i : PySem.W.findIn K (.ref C) "__init__" = some (some (.ref g))) (fn : PySem.W.isFn K (.ref g) = true) (FF : FnN P w K mg base ⟨clN K, TT⟩ k g F) : MkI P w K mg base ⟨clN K, TT⟩ c k F :=
  ⟨C, g, ⟨A.makes, i, fn, A.kp⟩, FF, clN_of e, PySem.W.mg_of X G e⟩
theorem propI_of (A : InsA K C) (e : PySem.W.nsIn K mainGlobals c = some (some (.ref C))) (hp : PropOf K C m p g) (FF : FnN P w K mg base ⟨clN K, TT⟩ k g F) : PropI P w K mg base ⟨clN K, TT⟩ m c k F := ⟨C, p, g, clN_of e, A.k.cl, hp, FF⟩
theorem ownM_of (e : PySem.W.nsIn K mainGlobals c = some (some (.ref C))) (i : PySem.W.findIn K (.ref C) m = some (some (.ref g))) (fn : PySem.W.isFn K (.ref g) = true) (FF : FnN P w K mg base ⟨clN K, TT⟩ k g F) : OwnM P w K mg base ⟨clN K, TT⟩ m c k F := ⟨C, g, clN_of e, i, fn, FF⟩
theorem ownE_of (A : InsA K C) (e : PySem.W.nsIn K mainGlobals c = some (some (.ref C))) (i : PySem.W.findIn K (.ref C) "__eq__" = some (some (.ref g))) (n : PySem.W.findIn K (.ref C) "__ne__" = some (some (.builtin "object.__ne__"))) (fn : PySem.W.isFn K (.ref g) = true) (nf : notFB K C = true)
    (FF : FnN P w K mg base ⟨clN K, TT⟩ k g F) : OwnE P w K mg base ⟨clN K, TT⟩ c k F := ⟨C, g, clN_of e, i, n, fn, A.k.hm, fun T hT => List.all_eq_true.mp nf T hT, FF⟩
theorem cmetI_of {mc : Value} (X : K.In h) (G : h.Ns mainGlobals mg) (e : PySem.W.nsIn K mainGlobals c = some (some (.ref C))) (r : ClX.CRead K C mc) (cm : ClX.CMet K C mc m p g) (FF : FnN P w K mg base ⟨clN K, TT⟩ k g F) : CMetI P w K mg base ⟨clN K, TT⟩ m c k F :=
  ⟨C, mc, p, g, clN_of e, PySem.W.mg_of X G e, r, cm, FF⟩
theorem toN_of {x qual : Str} {st : Stmt} {fd : FuncData} {ps : List Str} {n : Nat} (hn : ps.length = n) (FF : FnD P w K mg base ⟨clN K, TT⟩ k g fd ps F) (hb : Binds K fd ps []) : FnN P w K mg base ⟨clN K, TT⟩ k g (cF n F) := by
  subst hn
  exact FnD.toN FF hb
end
end DN
/-! DO20: the plain logic of instances, match, pop, f-strings. -/
namespace DN
open PySem PySem.Spec PyProof.Rows L2 TL
/-! ### the die, all else plain -/
def IsDiP (n : Nat) (S : Store) : Prop := IsDie n S ∧ S.all plC = true
theorem all_set {S : Store} {n : Nat} {c : Cell} (h : S.all plC = true) (hc : plC c = true) : (S.set n c).all plC = true := by
  rw [List.all_eq_true] at *
  intro x hx
  rcases List.mem_or_eq_of_mem_set hx with q | q
  · exact h x q
  · rw [q]; exact hc
theorem pl_int3 (a b c : Int) : plC (.lst [.int a, .int b, .int c]) = true := rfl
section
variable {n : Nat} {X : XP}
theorem w_dieAtP {k : Int} {P : D → Prop} (hk : k = 0 ∨ k = 1 ∨ k = 2) (h : ∀ i : Int, P (.int i)) : Wp (IsDiP n) (gIx (.mut n) (.int k)) P X := Wp.mk fun S ⟨⟨a, b, c, e⟩, pl⟩ => by
  have e' : S[n]? = some (.lst [.int a, .int b, .int c]) := e
  unfold gIx
  dsimp only
  rw [e']
  rcases hk with rfl | rfl | rfl
  · exact ⟨h a, ⟨a, b, c, e⟩, pl⟩
  · exact ⟨h b, ⟨a, b, c, e⟩, pl⟩
  · exact ⟨h c, ⟨a, b, c, e⟩, pl⟩
theorem w_dieSetP {k v : Int} {P : Unit → Prop} (hk : k = 0 ∨ k = 1 ∨ k = 2) (h : P ()) : Wp (IsDiP n) (gSetI (.mut n) (.int k) (.int v)) P X := Wp.mk fun S ⟨⟨a, b, c, e⟩, pl⟩ => by
  have e' : S[n]? = some (.lst [.int a, .int b, .int c]) := e
  have hn : n < S.length := (List.getElem?_eq_some_iff.mp e).1
  unfold gSetI
  dsimp only
  rw [e']
  rcases hk with rfl | rfl | rfl
  · exact ⟨h, ⟨v, b, c, List.getElem?_set_self hn⟩, all_set pl (pl_int3 ..)⟩
  · exact ⟨h, ⟨a, v, c, List.getElem?_set_self hn⟩, all_set pl (pl_int3 ..)⟩
  · exact ⟨h, ⟨a, b, v, List.getElem?_set_self hn⟩, all_set pl (pl_int3 ..)⟩
end
/-! ### steps that change the store -/
def Rs (m : Store → RS) (S : Store) (P : Fl → Env → Store → Prop) (X : Str → List (Str × D) → Store → Prop) : Prop := match m S with
  | .go f ρ S' => P f ρ S'
  | .exc c fs _ S' => X c fs S'
  | .bad => False
section
variable {S : Store} {ρ : Env} {P : Fl → Env → Store → Prop} {X : Str → List (Str × D) → Store → Prop} {f g : Sm}
theorem rs_seq (h : Rs (f ρ) S (fun fl ρ' S' => (fl = .nx → Rs (g ρ') S' P X) ∧ (fl ≠ .nx → P fl ρ' S')) X) : Rs (cSeq f g ρ) S P X := by
  unfold Rs at *
  unfold cSeq
  cases q : f ρ S with
  | go fl r S' =>
    rw [q] at h
    cases fl with
    | nx => exact h.1 rfl
    | rt d => exact h.2 (by intro z; cases z)
    | bk => exact h.2 (by intro z; cases z)
    | ct => exact h.2 (by intro z; cases z)
  | exc c fs r S' => rw [q] at h; exact h
  | bad => rw [q] at h; exact h
theorem rs_ws {m : Store → RS} {Q : Fl → Env → Prop} {XQ : XP} (h : Ws (fun S' => S' = S) m Q XQ) (i : ∀ f ρ, Q f ρ → P f ρ S) (ix : ∀ c fs, XQ c fs → X c fs S) : Rs m S P X := by
  have h1 := h.at_ S rfl
  unfold Rs
  cases q : m S with
  | go fl r S' => rw [q] at h1; obtain ⟨h2, e⟩ := h1; rw [e]; exact i _ _ h2
  | exc c fs r S' => rw [q] at h1; obtain ⟨h2, e⟩ := h1; rw [e]; exact ix _ _ h2
  | bad => rw [q] at h1; exact h1
theorem rs_setF {fe fo : Env → M D} {fl : Str} {cs : List Str} {d : D} {n : Nat} {c : Str} {fs : List (Str × D)} (he : Wp (fun S' => S' = S) (fe ρ) (fun x => x = d)) (ho : Wp (fun S' => S' = S) (fo ρ) (fun x => x = .mut n)) (hs : S[n]? = some (.ins c fs)) (hc : cs.contains c = true) (hl : fs.length < 1000)
    (h : P .nx ρ (S.set n (.ins c (putD fl d fs)))) : Rs (cSetF fe fo fl cs ρ) S P X := by
  obtain ⟨_, _, e1, rfl, rfl⟩ := he.run rfl
  obtain ⟨_, _, e2, rfl, rfl⟩ := ho.run rfl
  unfold Rs cSetF
  simp only [e1, onE, e2, hs, hc, hl, and_self, if_true]
  exact h
end
theorem w_make {c : Str} {F : List D → M D} {ds : List D} {I : Store → Prop} {P : D → Prop} {X : XP} (hI : ∀ S, I S → S.all plC = true)
    (h : ∀ S, I S → match F (.mut S.length :: ds) (S ++ [.ins c []]) with
      | .ok d S' => d = .non ∧ ∃ fs, S' = S ++ [.ins c fs] ∧ plFs fs = true ∧ P (.ins c fs)
      | .exc c0 fs S' => fs = [] ∧ S' = S ++ [.ins c []] ∧ X c0 []
      | .bad => False) : Wp I (gMake c F ds) P X := Wp.mk fun S i => by
  have h := h S i
  have pl := hI S i
  have pa : ∀ fs, plFs fs = true → (S ++ [Cell.ins c fs]).all plC = true := fun fs hf => by
    rw [List.all_append, pl]
    show (true && (plC (.ins c fs) && true)) = true
    rw [show plC (.ins c fs) = plFs fs from rfl, hf]
    rfl
  unfold gMake
  cases q : F (.mut S.length :: ds) (S ++ [.ins c []]) with
  | bad => rw [q] at h; exact h
  | ok d S' =>
    rw [q] at h
    obtain ⟨rfl, fs, rfl, hf, hp⟩ := h
    have e1 : (S ++ [Cell.ins c fs]).length = S.length + 1 := by rw [List.length_append]; rfl
    have e2 : (S ++ [Cell.ins c fs])[S.length]? = some (.ins c fs) := by rw [List.getElem?_append_right (Nat.le_refl _), Nat.sub_self]; rfl
    have e3 : (S ++ [Cell.ins c fs]).take S.length = S := by rw [List.take_append_of_le_length (Nat.le_refl _), List.take_length]
    simp only [e1, pa fs hf, e2, e3, and_self, if_true]
    exact ⟨hp, i⟩
  | exc c0 fs S' =>
    rw [q] at h
    obtain ⟨rfl, rfl, hx⟩ := h
    have e1 : (S ++ [Cell.ins c []]).length = S.length + 1 := by rw [List.length_append]; rfl
    have e3 : (S ++ [Cell.ins c []]).take S.length = S := by rw [List.take_append_of_le_length (Nat.le_refl _), List.take_length]
    simp only [e1, pa [] rfl, e3, and_self, if_true, List.isEmpty_nil]
    exact ⟨hx, i⟩
/-! ### a def that makes a list of three numbers, and no more -/
section
variable {S0 : Store} {ρ : Env}
theorem wl2_asg {i : Nat} {fa : Env → M D} {g : Sm} (h : Wp (fun S => S = S0) (fa ρ) (fun d => ∃ ρ2 a b c, g (ρ.set i (.val d)) S0 = .go (.rt (.mut S0.length)) ρ2 (S0 ++ [.lst [.int a, .int b, .int c]])) X0) : ∃ ρ2 a b c, cSeq (cAsg fa (bName i)) g ρ S0 = .go (.rt (.mut S0.length)) ρ2 (S0 ++ [.lst [.int a, .int b, .int c]]) := by
  obtain ⟨d, S', e, ⟨ρ2, a, b, c, e2⟩, rfl⟩ := h.run rfl
  refine ⟨ρ2, a, b, c, ?_⟩
  simp only [cSeq, cAsg, onE, e, bName]
  exact e2
theorem wl2_ret {fs : Env → M (List D)} (h : Wp (fun S => S = S0) (fs ρ) (fun xs => ∃ a b c : Int, xs = [.int a, .int b, .int c]) X0) : ∃ ρ2 a b c, cRet (cA gLstM fs) ρ S0 = .go (.rt (.mut S0.length)) ρ2 (S0 ++ [.lst [.int a, .int b, .int c]]) := by
  obtain ⟨xs, S', e, ⟨a, b, c, rfl⟩, rfl⟩ := h.run rfl
  have z3 : (3 : Nat) ≤ 16777216 := by omega
  refine ⟨ρ, a, b, c, ?_⟩
  simp only [cRet, onE, cA, bind_run, e, gLstM, List.length_cons, List.length_nil, Nat.reduceAdd, z3, if_true]
end
/-! ### leaves -/
section
variable {I : Store → Prop} {X : XP} {P : D → Prop} {PL : List D → Prop} {ρ : Env} {fa fb : Env → M D} {fs : Env → M (List D)} {F : List D → M D} {c : Str}
theorem w_nox {r : M D} {Q : D → Prop} (h : Wp I r Q X0) : Wp I (fun S => nox (r S)) Q X := Wp.mk fun S s => by
  have h1 := h.at_ S s
  unfold nox
  cases q : r S with
  | ok a S' => rw [q] at h1; exact h1
  | exc c fs S' => rw [q] at h1; exact h1.1.elim
  | bad => rw [q] at h1; exact h1
theorem wg_prop {l : List (Str × D)} (h : Wp I (F [.ins c l]) P X0) : Wp I (gProp c F (.ins c l)) P X := by
  unfold gProp
  dsimp only
  rw [if_pos rfl]
  exact w_nox h
theorem w_cF {n : Nat} {ds : List D} (hn : ds.length = n) (h : Wp I (F ds) P X) : Wp I (cF n F ds) P X := by unfold cF; rw [if_pos hn]; exact h
theorem w_starF {n : Nat} {ds : List D} (hn : n ≤ ds.length) (hl : ds.length ≤ 16777216) (h : Wp I (F (ds.take n ++ [.tup (ds.drop n)])) P X) : Wp I (starF n F ds) P X := by unfold starF; rw [if_pos ⟨hn, hl⟩]; exact h
theorem wg_lenI {l : List (Str × D)} (h : Wp I (F [.ins c l]) (fun d => ∃ n : Int, d = .int n ∧ (0 ≤ n ∧ n < 2 ^ 63) ∧ P (.int n)) X0) : Wp I (gLenI c F [.ins c l]) P X := Wp.mk fun S s => by
  have h1 := h.at_ S s
  unfold gLenI
  dsimp only
  rw [if_pos rfl]
  cases q : F [.ins c l] S with
  | ok a S' =>
    rw [q] at h1
    obtain ⟨⟨n, rfl, hn, hp⟩, i⟩ := h1
    dsimp only
    rw [if_pos hn]
    exact ⟨hp, i⟩
  | exc c fs S' => rw [q] at h1; exact h1.1.elim
  | bad => rw [q] at h1; exact h1
theorem wg_lenIT {xs : List D} (h : P (.int xs.length)) : Wp I (gLenI c F [.tup xs]) P X := Wp.pure h
theorem wg_lenIL {xs : List D} (h : P (.int xs.length)) : Wp I (gLenI c F [.lst xs]) P X := Wp.pure h
theorem wg_lenIC {xs : List Int} (h : P (.int xs.length)) : Wp I (gLenI c F [.scr xs]) P X := Wp.pure h
theorem wg_strI {l : List (Str × D)} (h : Wp I (F [.ins c l]) (fun d => ∃ x : Str, d = .str x ∧ P (.str x)) X0) : Wp I (gStrI c F [.ins c l]) P X := Wp.mk fun S s => by
  have h1 := h.at_ S s
  unfold gStrI
  dsimp only
  rw [if_pos rfl]
  cases q : F [.ins c l] S with
  | ok a S' =>
    rw [q] at h1
    obtain ⟨⟨n, rfl, hp⟩, i⟩ := h1
    exact ⟨hp, i⟩
  | exc c fs S' => rw [q] at h1; exact h1.1.elim
  | bad => rw [q] at h1; exact h1
theorem wg_strII {i : Int} (hi : i.natAbs.log2 < 1920) (h : P (.str (toString i))) : Wp I (gStrI c F [.int i]) P X := Wp.chk hi (Wp.pure h)
theorem wg_eqN {x y : D} {b : Bool} (e : eqN 50 x y = some b) (h : P (.bl b)) : Wp I (gEqN x y) P X := wg_eqm (by unfold gEqN; rw [e]) h
theorem w_eqIr {neg : Bool} {l : List (Str × D)} {y : D} (ok : okR c y = true) (h : Wp I (F [.ins c l, y]) (fun d => ∃ b : Bool, d = .bl b ∧ P (.bl (if neg then !b else b))) X0) : Wp I (eqIr neg c F (.ins c l) y) P X := Wp.mk fun S s => by
  have h1 := h.at_ S s
  unfold eqIr
  dsimp only
  rw [if_pos ⟨rfl, ok⟩]
  cases q : F [.ins c l, y] S with
  | ok a S' =>
    rw [q] at h1
    obtain ⟨⟨n, rfl, hp⟩, i⟩ := h1
    exact ⟨hp, i⟩
  | exc c fs S' => rw [q] at h1; exact h1.1.elim
  | bad => rw [q] at h1; exact h1
theorem wg_eqI {l : List (Str × D)} {y : D} (ok : okR c y = true) (h : Wp I (F [.ins c l, y]) (fun d => ∃ b : Bool, d = .bl b ∧ P (.bl b)) X0) : Wp I (gEqI c F (.ins c l) y) P X := w_eqIr (neg := false) ok h
theorem wg_neI {l : List (Str × D)} {y : D} (ok : okR c y = true) (h : Wp I (F [.ins c l, y]) (fun d => ∃ b : Bool, d = .bl b ∧ P (.bl (!b))) X0) : Wp I (gNeI c F (.ins c l) y) P X := w_eqIr (neg := true) ok h
def noIns : D → Bool
  | .ins _ _ => false
  | _ => true
theorem wg_eqIN {x y : D} {b : Bool} (hx : noIns x = true) (e : eqN 50 x y = some b) (h : P (.bl b)) : Wp I (gEqI c F x y) P X := by
  unfold gEqI
  split
  · cases hx
  · exact wg_eqN e h
theorem wg_neIN {x y : D} {b : Bool} (hx : noIns x = true) (e : eqD x y = some b) (h : P (.bl (!b))) : Wp I (gNeI c F x y) P X := by
  unfold gNeI
  split
  · cases hx
  · exact wg_ne e h
theorem wg_isI {tab : List (Str × Bool)} {l : List (Str × D)} {b : Bool} (e : tab.lookup c = some b) (h : P (.bl b)) : Wp I (gIsI tab (.ins c l)) P X := wg_eqm (by unfold gIsI; dsimp only; rw [e]) h
theorem wg_isIN {tab : List (Str × Bool)} {d : D} (hx : noIns d = true) {t : String} (e : tyD d = some t) (h : P (.bl false)) : Wp I (gIsI tab d) P X := by
  unfold gIsI
  split
  · cases hx
  · rw [e]; exact Wp.pure h
theorem wg_get {f : Str} {cs : List Str} {l : List (Str × D)} {d : D} (hc : cs.contains c = true) (e : l.lookup f = some d) (h : P d) : Wp I (gGet f cs (.ins c l)) P X := wg_eqm (by unfold gGet; dsimp only; rw [if_pos hc]; unfold lkD; rw [e]) h
theorem wg_ltI {i j : Int} (h : P (.bl (decide (i < j)))) : Wp I (gLtT (.int i) (.int j)) P X := Wp.pure h
theorem wg_ltT {xs ys : List D} {ns ms : List Int} (e1 : intsD xs = some ns) (e2 : intsD ys = some ms) (h : P (.bl (HT.lexLt ns ms))) : Wp I (gLtT (.tup xs) (.tup ys)) P X := wg_eqm (by unfold gLtT; dsimp only; rw [e1, e2]) h
theorem wg_inS {x y : D} {b : Bool} (e : inS x y = some b) (h : P (.bl b)) : Wp I (gInS x y) P X := wg_eqm (by unfold gInS; rw [e]) h
theorem wg_notInS {x y : D} {b : Bool} (e : inS x y = some b) (h : P (.bl (!b))) : Wp I (gNotInS x y) P X := wg_eqm (by unfold gNotInS; rw [e]) h
theorem wg_mulAI {i j : Int} (hl : (-(2 ^ 64) < i ∧ i < 2 ^ 64) ∨ (-(2 ^ 64) < j ∧ j < 2 ^ 64)) (h : P (.int (i * j))) : Wp I (gMulA (.int i) (.int j)) P X := wg_mul hl h
theorem wg_mulAL {xs : List D} {k : Int} (hl : 0 ≤ k ∧ k ≤ 1000 ∧ xs.length ≤ 1000) (h : P (.lst (List.replicate k.toNat xs).flatten)) : Wp I (gMulA (.lst xs) (.int k)) P X := wg_mulL hl h
theorem wg_mulAT {xs : List D} {k : Int} (h0 : xs.isEmpty = false) (h1 : 0 ≤ k ∧ k ≤ 1000 ∧ xs.length ≤ 1000) (h : P (.tup (List.replicate k.toNat xs).flatten)) : Wp I (gMulA (.tup xs) (.int k)) P X := by
  unfold gMulA
  dsimp only
  by_cases c : xs.isEmpty = false ∧ k ≤ 1
  · rw [if_pos c]
    by_cases c1 : k = 1
    · subst c1
      rw [if_pos rfl]
      refine Wp.pure ?_
      have : (List.replicate (1 : Int).toNat xs).flatten = xs := by simp
      rw [this] at h
      exact h
    · have c0 : k = 0 := by omega
      subst c0
      rw [if_neg c1, if_pos (by omega)]
      exact Wp.pure h
  · rw [if_neg c]
    have k2 : ¬ k ≤ 1 := fun z => c ⟨h0, z⟩
    exact wg_mulT ⟨h0, by omega, h1.2.1, h1.2.2⟩ h
theorem wg_sortBI {ds : List D} {ns : List Int} (e : intsD ds = some ns) (hl : ns.length < 64) (h : P (.lst ((sortI ns).map D.int))) : Wp I (gSortB (.tup ds)) P X := wg_eqm (by unfold gSortB; dsimp only; rw [e]; dsimp only; rw [if_pos hl]) h
theorem wg_sortBT {ds : List D} {ks : List (List Int)} (e0 : intsD ds = none) (e : keysD ds = some ks) (hl : ks.length < 64 ∧ evenK ks = true) (h : P (.lst (tupsI (SO.sortS ks)))) : Wp I (gSortB (.tup ds)) P X := wg_eqm (by unfold gSortB; dsimp only; rw [e0]; dsimp only; unfold sortSD; rw [e]; dsimp only; rw [if_pos hl]) h
theorem wg_sortBL {ds : List D} {ks : List (List Int)} (e : keysD ds = some ks) (hl : ks.length < 64 ∧ evenK ks = true) (h : P (.lst (tupsI (SO.sortS ks)))) : Wp I (gSortB (.lst ds)) P X := wg_eqm (by unfold gSortB gSortS; dsimp only; unfold sortSD; rw [e]; dsimp only; rw [if_pos hl]) h
theorem wg_fmtS {y : Str} (hl : y.length ≤ 16777216) (h : P (.str y)) : Wp I (gFmt (.str y)) P X := Wp.chk hl (Wp.pure h)
theorem wg_fmtI {i : Int} (hi : i.natAbs.log2 < 1920) (h : P (.str (toString i))) : Wp I (gFmt (.int i)) P X := Wp.chk hi (Wp.pure h)
theorem w_js0 {acc : Str} (h : P (.str acc)) : Wp I (cJs [] acc ρ) P X := Wp.pure h
theorem w_js {f : Env → M D} {r : List (Env → M D)} {acc : Str} (h : Wp I (f ρ) (fun d => ∃ y : Str, d = .str y ∧ (acc ++ y).length ≤ 16777216 ∧ Wp I (cJs r (acc ++ y) ρ) P X) X) : Wp I (cJs (f :: r) acc ρ) P X :=
  Wp.bind (h.imp (fun d ⟨y, e, hl, h⟩ => by subst e; exact Wp.chk hl h) fun _ _ x => x)
theorem w_star (h : Wp I (fa ρ) (fun d => ∃ xs, d = .tup xs ∧ Wp I (fs ρ) (fun ys => PL (xs ++ ys)) X) X) : Wp I (cStar fa fs ρ) PL X :=
  Wp.bind (h.imp (fun d ⟨xs, e, h⟩ => by subst e; exact Wp.bind (h.imp (fun ys hy => Wp.pure hy) fun _ _ x => x)) fun _ _ x => x)
theorem w_mkV {i : Nat} (e : ρ[i]? = some (.val (.cls c))) (h : Wp I (fs ρ) (fun xs => Wp I (gMake c F xs) P X) X) : Wp I (cMkV c F i fs ρ) P X :=
  Wp.bind (w_var e (by dsimp only; rw [if_pos rfl]; exact Wp.bind h))
theorem w_metN {c0 : Str} {X' : XP} (h : Wp I (fa ρ) P (fun c fs => c = c0 ∧ fs = [] ∧ P .non)) : Wp I (cMetN c0 fa ρ) P X' := Wp.mk fun S s => by
  have h1 := h.at_ S s
  unfold cMetN
  cases q : fa ρ S with
  | ok a S' => rw [q] at h1; exact h1
  | exc c fs S' =>
    rw [q] at h1
    obtain ⟨⟨rfl, rfl, hp⟩, i⟩ := h1
    simp only [List.isEmpty_nil, and_self, if_true]
    exact ⟨hp, i⟩
  | bad => rw [q] at h1; exact h1
theorem ws_raise {PS : Fl → Env → Prop} (h : X c []) : Ws I (cRaise c ρ) PS X := Ws.mk fun S s => ⟨h, s⟩
theorem ws_match {PS : Fl → Env → Prop} {f : D → Sm} (h : Wp I (fa ρ) (fun d => Ws I (f d ρ) PS X) X) : Ws I (cMatch fa f ρ) PS X := ws_onE h
theorem ws_kNo {PS : Fl → Env → Prop} {m : D → Mt} {fb : Sm} {fr : D → Sm} {d : D} (e : m d = some none) (h : Ws I (fr d ρ) PS X) : Ws I (kCons m fb fr d ρ) PS X := by
  show Ws I (fun S => kCons m fb fr d ρ S) PS X
  unfold kCons
  simp only [e]
  exact h
theorem ws_kYes {PS : Fl → Env → Prop} {m : D → Mt} {fb : Sm} {fr : D → Sm} {d : D} {bs : List (Nat × D)} (e : m d = some (some bs)) (h : Ws I (fb (setAllE bs ρ)) PS X) : Ws I (kCons m fb fr d ρ) PS X := by
  show Ws I (fun S => kCons m fb fr d ρ S) PS X
  unfold kCons
  simp only [e]
  exact h
end
end DN
/-! DO21: != against an empty list, an empty tuple, whatever stands in the other. -/
namespace DN
open PySem PySem.Spec PyProof.Rows L2 SeqAt
def neE (x y : D) : Option Bool := match x, y with
  | .lst xs, .lst ys => if ys.isEmpty = true then some (!xs.isEmpty) else none
  | .tup xs, .tup ys => if ys.isEmpty = true then some (!xs.isEmpty) else none
  | .str a, .str b => some (!(a == b))
  | _, _ => none
def gNeE (x y : D) : M D := match neE x y with
  | some b => M.pure (.bl b)
  | none => gNe x y
def rNeE (K : PySem.W.Frag) : R2 := fun x y H Q => ∃ (cl : Cls_) (W : Wd) (dx dy : D) (b : Bool), Rp ⟨K, cl⟩ W H x dx ∧ Rp ⟨K, cl⟩ W H y dy ∧ neE dx dy = some b ∧ Q (.bl b) H
section
variable {X : Cx}
theorem op_neE (hu : X.A.units + 64 < cLine) : OpR X (compareOp .NotEq) (fun x y H Q => rNeE X.K x y H Q ∨ rNeD X.K x y H Q) := by
  intro pins s σ H x y u1 u2 Q I e1 e2 h
  rcases h with ⟨cl, W, dx, dy, b, r, r', e, q⟩ | h
  · unfold neE at e
    split at e
    · rename_i xs ys
      by_cases c : ys.isEmpty = true
      · rw [if_pos c] at e
        cases List.isEmpty_iff.mp c
        cases r with
        | @lst a vs _ ha nb ra =>
          cases r' with
          | @lst a' ws _ ha' nb' ra' =>
            cases e1; cases e2
            obtain ⟨us, q1, q2, q3⟩ := lstV I ha ra
            obtain ⟨ts, p1, p2, p3⟩ := lstV I ha' ra'
            have hts : ts = [] := List.eq_nil_of_length_eq_zero p3
            subst hts
            show wpAny (model X.prog X.w) X.A (richCompare .NotEq (.ref a) (.ref a')) (EP X pins σ Q) X.xe s
            cases xs with
            | nil =>
              have hus : us = [] := List.eq_nil_of_length_eq_zero q3
              subst hus
              cases e
              exact RcNeAt.lists (e := fun _ => true) q2 p2 rfl (by omega) (fun j h1 => absurd h1 (Nat.not_lt_zero _)) _ _ _ _ ⟨.bl false, H, I, rfl, q⟩
            | cons z zs =>
              cases e
              refine RcNeAt.lists_lengths q2 p2 (bne_iff_ne.mpr ?_) (by omega) _ _ _ _ ⟨.bl true, H, I, rfl, q⟩
              rw [List.size_toArray, List.size_toArray, q3]
              exact Nat.succ_ne_zero _
      · rw [if_neg c] at e; cases e
    · rename_i xs ys
      by_cases c : ys.isEmpty = true
      · rw [if_pos c] at e
        cases List.isEmpty_iff.mp c
        cases r with
        | @tup a vs _ ha ra =>
          cases r' with
          | @tup a' ws _ ha' ra' =>
            cases e1; cases e2
            obtain ⟨us, q1, q2, q3⟩ := tupV I ha ra
            obtain ⟨ts, p1, p2, p3⟩ := tupV I ha' ra'
            have hts : ts = [] := List.eq_nil_of_length_eq_zero p3
            subst hts
            show wpAny (model X.prog X.w) X.A (richCompare .NotEq (.ref a) (.ref a')) (EP X pins σ Q) X.xe s
            refine RcNeAt.tuples (e := fun _ => true) q2 p2 (by omega) (fun j _ h2 => absurd h2 (Nat.not_lt_zero _)) _ _ _ _ ⟨.bl b, H, I, ?_, q⟩
            have hb : b = !xs.isEmpty := by cases e; rfl
            subst hb
            cases xs with
            | nil =>
              have hus : us = [] := List.eq_nil_of_length_eq_zero q3
              subst hus
              rfl
            | cons z zs =>
              have : us ≠ [] := fun z => by rw [z] at q3; cases q3
              show Value.bool _ = Value.bool _
              congr 1
              cases us with
              | nil => exact absurd rfl this
              | cons a b => simp
      · rw [if_neg c] at e; cases e
    · rename_i a b
      cases e
      cases r; cases r'
      obtain ⟨t, rfl⟩ := e1
      obtain ⟨t', rfl⟩ := e2
      show wpAny (model X.prog X.w) X.A (richCompare .NotEq (.str a t) (.str b t')) (EP X pins σ Q) X.xe s
      exact RcNeAt.str_str a t b t' _ _ _ _ ⟨.bl _, H, I, rfl, q⟩
    · cases e
  · exact op_neD hu pins s σ H x y u1 u2 Q I e1 e2 h
theorem od_neE {K : PySem.W.Frag} {cl : Cls_} : OpD K cl (fun x y H Q => rNeE K x y H Q ∨ rNeD K x y H Q) gNeE := by
  intro E σ W H S x y dx dy Q w s rx ry h
  unfold gNeE at h
  cases q : neE dx dy with
  | none => rw [q] at h; exact .inr (od_ne E σ W H S x y dx dy Q w s rx ry h)
  | some b => rw [q] at h; exact .inl ⟨cl, W, dx, dy, b, rx, ry, q, Po.val w s h (.bl b)⟩
end
/-- != of instances or of data -/
def gNeJ (c : Str) (F : List D → M D) (x y : D) : M D := match x with
  | .ins _ _ => eqIr true c F x y
  | _ => gNeE x y
theorem op_neJ {X : Cx} {cl : Cls_} {k : Nat} {c : Str} {F : List D → M D} (T : OwnE X.prog X.w X.K X.mg X.base cl c k F) (hr : Room (k + 1) X.A) : OpR X (compareOp .NotEq) (fun x y H Q => (rNeE X.K x y H Q ∨ rNeD X.K x y H Q) ∨ (rNeD X.K x y H Q ∨ rEqI X.K cl c F true x y H Q)) :=
  (op_neE hr.units).or (op_neI T hr)
theorem od_neJ {K : PySem.W.Frag} {cl : Cls_} {c : Str} {F : List D → M D} : OpD K cl (fun x y H Q => (rNeE K x y H Q ∨ rNeD K x y H Q) ∨ (rNeD K x y H Q ∨ rEqI K cl c F true x y H Q)) (gNeJ c F) := by
  intro E σ W H S x y dx dy Q w s rx ry h
  unfold gNeJ at h
  split at h
  · exact .inr (.inr (od_eqIr w s rx ry h))
  · exact .inl (od_neE E σ W H S x y _ dy Q w s rx ry h)
section
variable {I : Store → Prop} {X : XP} {P : D → Prop}
theorem wg_neJ {c : Str} {F : List D → M D} {l : List (Str × D)} {y : D} (ok : okR c y = true) (h : Wp I (F [.ins c l, y]) (fun d => ∃ b : Bool, d = .bl b ∧ P (.bl (!b))) X0) : Wp I (gNeJ c F (.ins c l) y) P X := w_eqIr (neg := true) ok h
theorem wg_neJN {c : Str} {F : List D → M D} {x y : D} (hx : noIns x = true) (h : Wp I (gNeE x y) P X) : Wp I (gNeJ c F x y) P X := by
  unfold gNeJ
  split
  · cases hx
  · exact h
theorem wg_neES {a b : Str} (h : P (.bl (!(a == b)))) : Wp I (gNeE (.str a) (.str b)) P X := Wp.pure h
theorem wg_neL {xs : List D} (h : P (.bl (!xs.isEmpty))) : Wp I (gNeE (.lst xs) (.lst [])) P X := Wp.pure h
theorem wg_neT {xs : List D} (h : P (.bl (!xs.isEmpty))) : Wp I (gNeE (.tup xs) (.tup [])) P X := Wp.pure h
theorem wg_neEI {i j : Int} (h : P (.bl (!decide (i = j)))) : Wp I (gNeE (.int i) (.int j)) P X := wg_ne (eqD_int i j) h
theorem wg_neEB {i j : Bool} (h : P (.bl (!decide (i = j)))) : Wp I (gNeE (.bl i) (.bl j)) P X := wg_ne (eqD_bl i j) h
end
end DN
/-! DO22: x, xs = e, [..]: xs a list of one's own. -/
namespace DN
open PySem PySem.Spec PyProof.Rows L2
def cParV (i j : Nat) (fe : Env → M D) (fs : Env → M (List D)) : Sm := fun ρ S => onE (fe ρ S) ρ fun d S1 => onE (fs ρ S1) ρ fun ds S2 => if ds.length ≤ 16777216 then .go .nx ((ρ.set i (.val d)).set j (.own ds)) S2 else .bad
section
variable {X : Cx} {cl : Cls_} {E : WX} {es : List Expr} {b : Expr} {fs : Env → M (List D)} {fe : Env → M D} {pos : Pos}
theorem ds_parV (i j : Nat) {x y : Str} {px py pt lp : Pos} {kt k2 pt2} (hc : X.calm = true) (hN : X.N.Nodup) (he : DE X cl E b fe) (hs : DA X cl E es fs) (hw : swappedStores [.Tuple [.Name x px, .Name y py] kt pt] (.Tuple [b, .List es lp] k2 pt2) X.env = pure (some [x, y]) := by rfl)
    (hi : X.N[i]? = some x := by rfl) (hj : X.N[j]? = some y := by rfl) (hij : i ≠ j := by decide) (hx : X.env.scope.names.lookup x = some .local := by rfl) (hy : X.env.scope.names.lookup y = some .local := by rfl)
    (hss : swapsWithSole [.Tuple [.Name x px, .Name y py] kt pt] (.Tuple [b, .List es lp] k2 pt2) pos.line X.env = pure false := by rfl) (s1 : starEach [b, .List es lp] X.env = (false, eval b X.env) :: starEach [.List es lp] X.env := by rfl) (s2 : starEach [.List es lp] X.env = (false, eval (.List es lp) X.env) :: starEach [] X.env := by rfl) :
    DS X cl E (.Assign [.Tuple [.Name x px, .Name y py] kt pt] (.Tuple [b, .List es lp] k2 pt2) pos) (cParV i j fe fs) := by
  refine ps_imp (ps_par hc hN hi hj hij hx hy (pa_cons he (pa_cons (pe_lst hs) pa_nil s2) s1) hw hss) fun Dn σ H ⟨W0, H0, W, S, ρ, own, ev, h⟩ => ?_
  refine ⟨W0, H0, W, S, ρ, own, ev, (PoS.onE ev h).imp fun d S1 W1 H1 l1 w1 s1 h1 v rv => ?_⟩
  have ev1 := ev.mono l1 w1 s1
  refine ⟨W0, H0, W1, S1, ρ, own, ev1, (PoS.onE ev1 h1).imp fun ds S2 W2 H2 l2 w2 s2 h2 vs r => ?_⟩
  by_cases c : ds.length ≤ 16777216
  · rw [if_pos c] at h2
    refine ⟨by rw [r.length]; exact isline c, fun p hp => ⟨v, .ref p, rfl, ?_⟩⟩
    have ev2 := ev1.mono l2 w2 s2
    have lp := le_add (o := .lst vs) (W := W2) hp
    have ev3 := ev2.mono lp (ok_add w2 hp) (st_add w2 s2 hp)
    have nb := w2.free hp
    have z0 : Nw H0 p := fun o q t => by
      rcases ev2.le.kp p o q t with ⟨n, y⟩ | y
      · exact absurd (w2.rg n p (ev2.le.ph n p y)) nb
      · rw [hp] at y; cases y
    have ho : ∀ k, (fun k => if k = i then none else own k) k ≠ some p := fun k q => by
      by_cases e : k = i
      · simp [e] at q
      · simp [e] at q
        exact nb (ev2.oB k p q).1
    have hn : ∀ n, (W2.add p).phi n ≠ some p := fun n q => nb (w2.rg n p q)
    have ev4 := (ev3.set (i := i) ((rv.mono (l2.lw w1)).mono (lp.lw w2))).ownAt (i := j) (.inr rfl) z0 hn ho upd_same (r.mono (lp.lw w2))
    exact h2 _ _ _ _ (lp.lw w2) ev4
  · rw [if_neg c] at h2; exact h2.elim
end
section
variable {I : Store → Prop} {X : XP} {ρ : Env} {fe : Env → M D} {fs : Env → M (List D)}
theorem ws_parV {PS : Fl → Env → Prop} {i j : Nat} (h : Wp I (fe ρ) (fun d => Wp I (fs ρ) (fun ds => ds.length ≤ 16777216 ∧ PS .nx ((ρ.set i (.val d)).set j (.own ds))) X) X) : Ws I (cParV i j fe fs ρ) PS X := by
  refine ws_onE (h.imp (fun d h => ws_onE (h.imp (fun ds ⟨c, h⟩ => ?_) fun _ _ x => x)) fun _ _ x => x)
  simp only [if_pos c]
  exact ws_go h
end
end DN
/-! KB: bags with ANY entries, in plain Lean. -/
namespace KB
open PySem PySem.Spec PyProof.Rows L2 DN
def bagD (xs : List Int) : D := .tup (xs.map D.int)
def Wide (xs : List Int) : Prop := 0 < xs.length ∧ xs.length ≤ 5 ∧ ∀ x ∈ xs, -1 ≤ x
def leW (a b : Int) : Bool := decide (b = -1) || (!decide (a = -1) && decide (a ≤ b))
def addW (a b : Int) : Int := if a = -1 ∨ b = -1 then -1 else a + b
def within (xs ys : List Int) : Bool := (xs.zip ys).all fun p => leW p.1 p.2
def sumW (xs ys : List Int) : List Int := (xs.zip ys).map fun p => addW p.1 p.2
def isInt : D → Bool
  | .int _ => true
  | _ => false
def isCount (k : Int) : D → Bool
  | .int i => decide (k ≤ i)
  | _ => false
def isBagOf (k : Int) : D → Bool
  | .tup xs => decide (0 < xs.length) && decide (xs.length ≤ 5) && xs.all (isCount k)
  | _ => false
def Ty2 (d : D) : Prop := Ty d ∧ ∀ xs, d = .tup xs → xs.length ≤ 100 ∧ ∀ x ∈ xs, Ty x
theorem zipD_ints : ∀ xs ys : List Int, zipD (xs.map D.int) (ys.map D.int) = (xs.zip ys).map fun p => D.tup [.int p.1, .int p.2]
  | [], _ => by cases ‹List Int› <;> rfl
  | _ :: _, [] => rfl
  | x :: xs, y :: ys => by simp only [List.map_cons, zipD, List.zip_cons_cons, zipD_ints xs ys]
theorem leW_refl (a : Int) : leW a a = true := by
  unfold leW
  by_cases h : a = -1 <;> simp [h]
theorem leW_trans {a b c : Int} (h1 : leW a b = true) (h2 : leW b c = true) : leW a c = true := by
  unfold leW at *
  simp only [Bool.or_eq_true, Bool.and_eq_true, Bool.not_eq_true', decide_eq_true_eq, decide_eq_false_iff_not] at *
  omega
theorem leW_add {a b : Int} (hb : -1 ≤ b) : leW a (addW a b) = true := by
  unfold leW addW
  simp only [Bool.or_eq_true, Bool.and_eq_true, Bool.not_eq_true', decide_eq_true_eq, decide_eq_false_iff_not]
  split <;> omega
theorem addW_comm (a b : Int) : addW a b = addW b a := by
  unfold addW
  split <;> split <;> omega
theorem addW_wide {a b : Int} (ha : -1 ≤ a) (hb : -1 ≤ b) : -1 ≤ addW a b := by
  unfold addW
  split <;> omega
theorem addW_assoc {a b c : Int} (ha : -1 ≤ a) (hb : -1 ≤ b) (hc : -1 ≤ c) : addW (addW a b) c = addW a (addW b c) := by
  unfold addW
  by_cases h1 : a = -1 <;> by_cases h2 : b = -1 <;> by_cases h3 : c = -1 <;> simp [h1, h2, h3] <;> (try omega)
/-! by places -/
theorem within_iff {xs ys : List Int} (hl : xs.length = ys.length) : within xs ys = true ↔ ∀ i (h : i < xs.length), leW xs[i] (ys[i]'(hl ▸ h)) = true := by
  unfold within
  rw [List.all_eq_true]
  constructor
  · intro h i hi
    exact h (xs[i], ys[i]) (by
      have : (xs.zip ys)[i]'(by rw [List.length_zip]; omega) = (xs[i], ys[i]) := List.getElem_zip
      rw [← this]
      exact List.getElem_mem _)
  · intro h p hp
    obtain ⟨i, hi, e⟩ := List.mem_iff_getElem.mp hp
    have hi' : i < xs.length := by rw [List.length_zip] at hi; omega
    have := h i hi'
    have e2 : (xs.zip ys)[i] = (xs[i], ys[i]) := List.getElem_zip
    rw [← e, e2]
    exact this
theorem within_refl (xs : List Int) : within xs xs = true := (within_iff rfl).mpr fun i h => leW_refl _
theorem within_trans {xs ys zs : List Int} (h1 : xs.length = ys.length) (h2 : ys.length = zs.length) (a : within xs ys = true) (b : within ys zs = true) : within xs zs = true :=
  (within_iff (h1.trans h2)).mpr fun i h => leW_trans ((within_iff h1).mp a i h) ((within_iff h2).mp b i (h1 ▸ h))
theorem sumW_length {xs ys : List Int} (h : xs.length = ys.length) : (sumW xs ys).length = xs.length := by
  unfold sumW
  rw [List.length_map, List.length_zip]
  omega
theorem sumW_get {xs ys : List Int} (h : xs.length = ys.length) (i : Nat) (hi : i < xs.length) : (sumW xs ys)[i]'(by rw [sumW_length h]; exact hi) = addW xs[i] (ys[i]'(h ▸ hi)) := by
  unfold sumW
  rw [List.getElem_map, List.getElem_zip]
theorem sumW_wide {xs ys : List Int} (h : xs.length = ys.length) (a : Wide xs) (b : Wide ys) : Wide (sumW xs ys) := by
  refine ⟨by rw [sumW_length h]; exact a.1, by rw [sumW_length h]; exact a.2.1, fun x hx => ?_⟩
  obtain ⟨i, hi, e⟩ := List.mem_iff_getElem.mp hx
  have hi' : i < xs.length := by rw [sumW_length h] at hi; exact hi
  rw [← e, sumW_get h i hi']
  exact addW_wide (a.2.2 _ (List.getElem_mem _)) (b.2.2 _ (List.getElem_mem _))
theorem sumW_comm {xs ys : List Int} (h : xs.length = ys.length) : sumW xs ys = sumW ys xs := by
  refine List.ext_getElem (by rw [sumW_length h, sumW_length h.symm]; exact h) fun i h1 h2 => ?_
  have hi : i < xs.length := by rw [sumW_length h] at h1; exact h1
  rw [sumW_get h i hi, sumW_get h.symm i (h ▸ hi), addW_comm]
theorem sumW_assoc {xs ys zs : List Int} (h : xs.length = ys.length) (h' : ys.length = zs.length) (a : Wide xs) (b : Wide ys) (c : Wide zs) : sumW (sumW xs ys) zs = sumW xs (sumW ys zs) := by
  have g1 : (sumW xs ys).length = zs.length := by rw [sumW_length h]; omega
  have g2 : xs.length = (sumW ys zs).length := by rw [sumW_length h']; omega
  refine List.ext_getElem (by rw [sumW_length g1, sumW_length g2, sumW_length h]) fun i h1 h2 => ?_
  have hi : i < xs.length := by rw [sumW_length g2] at h2; exact h2
  rw [sumW_get g1 i (by rw [sumW_length h]; exact hi), sumW_get g2 i hi, sumW_get h i hi, sumW_get h' i (h ▸ hi)]
  exact addW_assoc (a.2.2 _ (List.getElem_mem _)) (b.2.2 _ (List.getElem_mem _)) (c.2.2 _ (List.getElem_mem _))
theorem within_sum {xs ys : List Int} (h : xs.length = ys.length) (b : Wide ys) : within xs (sumW xs ys) = true :=
  (within_iff (sumW_length h).symm).mpr fun i hi => by
    rw [sumW_get h i hi]
    exact leW_add (b.2.2 _ (List.getElem_mem _))
/-! comparison of bags -/
theorem toPs_ints : ∀ xs : List Int, toPs (xs.map D.int) = some (xs.map PyData.int)
  | [] => by unfold toPs; rfl
  | x :: xs => by unfold List.map toPs; rw [toPs_ints xs]; unfold toP; rfl
theorem toP_bag (xs : List Int) : toP (bagD xs) = some (.tuple (xs.map PyData.int)) := by unfold bagD toP; rw [toPs_ints]; rfl
theorem lay_ints : ∀ xs : List Int, PyData.canLayAll0 (xs.map PyData.int) = true ∧ PyData.depthAll (xs.map PyData.int) = 0
  | [] => ⟨rfl, rfl⟩
  | x :: xs => by
    obtain ⟨a, b⟩ := lay_ints xs
    constructor
    · unfold List.map PyData.canLayAll0 PyData.canLay0; rw [a]; rfl
    · unfold List.map PyData.depthAll PyData.depth; rw [b]; rfl
theorem sh_bag (xs : List Int) : SeqAt.shaped (.tuple (xs.map PyData.int)) = true := by
  unfold SeqAt.shaped PyData.canLay0 PyData.depth
  rw [(lay_ints xs).1, (lay_ints xs).2]
  rfl
theorem eqv_ints : ∀ xs ys : List Int, PyData.eqvAll (xs.map PyData.int) (ys.map PyData.int) = decide (xs = ys)
  | [], [] => rfl
  | [], _ :: _ => rfl
  | _ :: _, [] => rfl
  | x :: xs, y :: ys => by
    unfold List.map PyData.eqvAll PyData.eqv
    rw [eqv_ints xs ys]
    by_cases h : x = y <;> by_cases h2 : xs = ys <;> simp [h, h2]
theorem eqD_bag (xs ys : List Int) : eqD (bagD xs) (bagD ys) = some (decide (xs = ys)) := by
  unfold eqD
  rw [toP_bag, toP_bag]
  dsimp only
  rw [if_pos ⟨sh_bag xs, sh_bag ys⟩]
  show some (PyData.eqvAll _ _) = _
  rw [eqv_ints]
/-! the bags that stand for a wide one -/
def topW (xs : List Int) : List Int := xs.map fun x => if x = -1 then 10 ^ 39 else x
theorem topW_len (xs : List Int) : (topW xs).length = xs.length := List.length_map _
theorem topW_get (xs : List Int) (i : Nat) (h : i < (topW xs).length) (h' : i < xs.length) : (topW xs)[i] = if xs[i] = -1 then 10 ^ 39 else xs[i] := List.getElem_map _
theorem topW_within (xs : List Int) (h : ∀ x ∈ xs, -1 ≤ x) : within (topW xs) xs = true := by
  have hl : (topW xs).length = xs.length := List.length_map _
  refine (within_iff hl).mpr fun i hi => ?_
  rw [topW_get xs i hi (hl ▸ hi)]
  unfold leW
  simp only [Bool.or_eq_true, Bool.and_eq_true, Bool.not_eq_true', decide_eq_true_eq, decide_eq_false_iff_not]
  split <;> omega
theorem topW_gap {xs ys : List Int} (hl : xs.length = ys.length) (hx : ∀ x ∈ xs, -1 ≤ x) (hy : ∀ y ∈ ys, y ≤ 10 ^ 38) (h : within (topW xs) ys = true) : within xs ys = true := by
  have ht : (topW xs).length = xs.length := List.length_map _
  refine (within_iff hl).mpr fun i hi => ?_
  have := (within_iff (ht.trans hl)).mp h i (by omega)
  rw [topW_get xs i (by omega) hi] at this
  have b := hy _ (List.getElem_mem (hl ▸ hi))
  have p : (10 : Int) ^ 38 < 10 ^ 39 := by decide
  revert this
  unfold leW
  simp only [Bool.or_eq_true, Bool.and_eq_true, Bool.not_eq_true', decide_eq_true_eq, decide_eq_false_iff_not]
  generalize (10 : Int) ^ 38 = q at *
  generalize (10 : Int) ^ 39 = r at *
  split <;> omega
/-- a place turned -/
theorem set_within {xs : List Int} {k : Nat} {v : Int} (hx : ∀ x ∈ xs, -1 ≤ x) (hk : k < xs.length) (hv : 0 ≤ v) (hw : xs[k] = -1 ∨ v ≤ xs[k]) : within ((topW xs).set k v) xs = true := by
  have ht : ((topW xs).set k v).length = xs.length := by rw [List.length_set]; exact List.length_map _
  refine (within_iff ht).mpr fun i hi => ?_
  rw [List.getElem_set]
  have hi' : i < xs.length := by omega
  by_cases e : k = i
  · subst e
    rw [if_pos rfl]
    unfold leW
    simp only [Bool.or_eq_true, Bool.and_eq_true, Bool.not_eq_true', decide_eq_true_eq, decide_eq_false_iff_not]
    omega
  · rw [if_neg e]
    have tl : (topW xs).length = xs.length := List.length_map _
    exact (within_iff tl).mp (topW_within xs hx) i (by omega)
end KB
namespace K10
open PySem PySem.Spec PyProof.Rows L2 DN
abbrev pw : PySem.Program := PySem.Challenge.pw_postedbag_k10_procedures_by_form
def top (i : Nat) : Stmt := pw.main.body.getD i (.Pass ⟨0, 0, 0, 0⟩)
structure Txt (mg : Str → Option Value) (tk_LETTERS tk_MAX_LETTERS tk_MAX_MODES tk_MAX_MOVES tk_MAX_POINTS : Tok) : Prop where
  b_abs : mg "abs" = none
  b_all : mg "all" = none
  b_bool : mg "bool" = none
  b_int : mg "int" = none
  b_isinstance : mg "isinstance" = none
  b_len : mg "len" = none
  b_list : mg "list" = none
  b_max : mg "max" = none
  b_min : mg "min" = none
  b_range : mg "range" = none
  b_repr : mg "repr" = none
  b_set : mg "set" = none
  b_sorted : mg "sorted" = none
  b_str : mg "str" = none
  b_tuple : mg "tuple" = none
  b_zip : mg "zip" = none
  g_LETTERS : mg "LETTERS" = some (.str "abcdefghijklmnopqrstuvwxyz" tk_LETTERS)
  g_MAX_LETTERS : mg "MAX_LETTERS" = some (.int (8) tk_MAX_LETTERS)
  g_MAX_MODES : mg "MAX_MODES" = some (.int (5) tk_MAX_MODES)
  g_MAX_MOVES : mg "MAX_MOVES" = some (.int (12) tk_MAX_MOVES)
  g_MAX_POINTS : mg "MAX_POINTS" = some (.int (6) tk_MAX_POINTS)
abbrev xcls : List Str := ["BagError", "InvalidProgram"]
abbrev fI_own_moves : List Str := ["Procedure"]
abbrev fI_own_name : List Str := ["Procedure"]
abbrev fI_own_points : List Str := ["Procedure"]
abbrev tabI_Procedure : List (Str × Bool) := [("Procedure", true)]
abbrev s_is_integer : Stmt := top 3
abbrev N_is_integer : List Str := ["value"]
theorem sc_is_integer : FnScope N_is_integer ["value"] (defScope s_is_integer) := ⟨rfl, rfl, rfl, by decide +kernel, rfl, by decide +kernel, by decide +kernel⟩
def b_is_integer : Sm := cRet (cAndV (c1 (gIsi "int") (cVar 0)) (c1 gNot (c1 (gIsi "bool") (cVar 0))))
def F_is_integer : List D → M D := runF 1 1 b_is_integer
theorem ok_is_integer {P : Program} {w : World} {K : PySem.W.Frag} {mg : Str → Option Value} {base : Heap} {cl : Cls_} {tk_LETTERS tk_MAX_LETTERS tk_MAX_MODES tk_MAX_MOVES tk_MAX_POINTS : Tok} (T : Txt mg tk_LETTERS tk_MAX_LETTERS tk_MAX_MODES tk_MAX_MOVES tk_MAX_POINTS) (fd : Fd K mg "is_integer" "is_integer" s_is_integer ["value"]) : Cal P w K mg base cl "is_integer" 1 ["value"] F_is_integer := by
  refine fd.cal sc_is_integer fun f cdv A outer s H E hr => ?_
  have nd := sc_is_integer.nd
  have tk : Takes (cxD P w K mg base N_is_integer "is_integer" s_is_integer f cdv A outer s H E) (fun c d _ H => E c d H) := takes_of rfl rfl rfl rfl
  exact (dss_one (ds_ret (de_and (de_isi (T := "int") (by decide) T.b_isinstance T.b_int (de_var 0)) (de_one (de_not (de_isi (T := "bool") (by decide) T.b_isinstance T.b_bool (de_var 0)))))))
abbrev s_is_below : Stmt := top 4
abbrev N_is_below : List Str := ["value", "limit"]
theorem sc_is_below : FnScope N_is_below ["value", "limit"] (defScope s_is_below) := ⟨rfl, rfl, rfl, by decide +kernel, rfl, by decide +kernel, by decide +kernel⟩
def b_is_below : Sm := cRet (cAndV (cCall 1 F_is_integer (cCons (cVar 0) (cNil))) (cChain gLe gLtT (cC (.int 0)) (cVar 0) (cVar 1)))
def F_is_below : List D → M D := runF 2 2 b_is_below
theorem ok_is_below {P : Program} {w : World} {K : PySem.W.Frag} {mg : Str → Option Value} {base : Heap} {cl : Cls_} {tk_LETTERS tk_MAX_LETTERS tk_MAX_MODES tk_MAX_MOVES tk_MAX_POINTS : Tok} (T : Txt mg tk_LETTERS tk_MAX_LETTERS tk_MAX_MODES tk_MAX_MOVES tk_MAX_POINTS) (fd : Fd K mg "is_below" "is_below" s_is_below ["value", "limit"]) (C_is_integer : Cal P w K mg base cl "is_integer" 1 ["value"] F_is_integer) : Cal P w K mg base cl "is_below" 2 ["value", "limit"] F_is_below := by
  refine fd.cal sc_is_below fun f cdv A outer s H E hr => ?_
  have nd := sc_is_below.nd
  have tk : Takes (cxD P w K mg base N_is_below "is_below" s_is_below f cdv A outer s H E) (fun c d _ H => E c d H) := takes_of rfl rfl rfl rfl
  exact (dss_one (ds_ret (de_and (de_cal C_is_integer (hr.mono (by decide)) tk (da_cons (de_var 0) da_nil)) (de_one (de_chain op_leA (op_ltB hr.units) od_le od_ltB de_int (de_var 0) (de_var 1))))))
abbrev s_is_ascending : Stmt := top 5
abbrev N_is_ascending : List Str := ["items", "one", "other"]
theorem sc_is_ascending : FnScope N_is_ascending ["items"] (defScope s_is_ascending) := ⟨rfl, rfl, rfl, by decide +kernel, rfl, by decide +kernel, by decide +kernel⟩
def b_is_ascending : Sm := cRet (cA gAll (cCons (cComp (cZip (cVar 0) (cSl (cVar 0) (cPart (cC (.int 1))) (cNoP))) (bTup [bName 1, bName 2]) (cYes) (c2 gLtT (cVar 1) (cVar 2)) [1, 2]) (cNil)))
def F_is_ascending : List D → M D := runF 1 3 b_is_ascending
theorem ok_is_ascending {P : Program} {w : World} {K : PySem.W.Frag} {mg : Str → Option Value} {base : Heap} {cl : Cls_} {tk_LETTERS tk_MAX_LETTERS tk_MAX_MODES tk_MAX_MOVES tk_MAX_POINTS : Tok} (T : Txt mg tk_LETTERS tk_MAX_LETTERS tk_MAX_MODES tk_MAX_MOVES tk_MAX_POINTS) (fd : Fd K mg "is_ascending" "is_ascending" s_is_ascending ["items"]) : Cal P w K mg base cl "is_ascending" 1 ["items"] F_is_ascending := by
  refine fd.cal sc_is_ascending fun f cdv A outer s H E hr => ?_
  have nd := sc_is_ascending.nd
  have tk : Takes (cxD P w K mg base N_is_ascending "is_ascending" s_is_ascending f cdv A outer s H E) (fun c d _ H => E c d H) := takes_of rfl rfl rfl rfl
  exact (dss_one (ds_ret (de_callB (cr_all rfl) cd_all T.b_all (da_cons (de_lc [("one", 1), ("other", 2)] rfl nd (di_zip T.b_zip (de_var 0) (de_sl (de_var 0) (do_some de_int) do_none)) (blkOk_by (own := [("one", 1), ("other", 2)]) (N := N_is_ascending) (sc := defScope s_is_ascending) (by decide +kernel)) (fun _ _ _ _ _ => (dg_tup rfl (dgs_cons (dg_name (i := 1) nd) (dgs_cons (dg_name (i := 2) nd) dgs_nil)))) (fun _ _ _ _ _ => by exact dts_nil) (fun _ _ _ _ _ => by exact (de_cmp (op_ltB hr.units) od_ltB (de_var 1) (de_var 2) (nomark _)))) da_nil))))
abbrev s_is_pair : Stmt := top 6
abbrev N_is_pair : List Str := ["value"]
theorem sc_is_pair : FnScope N_is_pair ["value"] (defScope s_is_pair) := ⟨rfl, rfl, rfl, by decide +kernel, rfl, by decide +kernel, by decide +kernel⟩
def b_is_pair : Sm := cRet (cAndV (c1 (gIsi "tuple") (cVar 0)) (c2 gEqN (cA gLen (cCons (cVar 0) (cNil))) (cC (.int 2))))
def F_is_pair : List D → M D := runF 1 1 b_is_pair
theorem ok_is_pair {P : Program} {w : World} {K : PySem.W.Frag} {mg : Str → Option Value} {base : Heap} {cl : Cls_} {tk_LETTERS tk_MAX_LETTERS tk_MAX_MODES tk_MAX_MOVES tk_MAX_POINTS : Tok} (T : Txt mg tk_LETTERS tk_MAX_LETTERS tk_MAX_MODES tk_MAX_MOVES tk_MAX_POINTS) (fd : Fd K mg "is_pair" "is_pair" s_is_pair ["value"]) : Cal P w K mg base cl "is_pair" 1 ["value"] F_is_pair := by
  refine fd.cal sc_is_pair fun f cdv A outer s H E hr => ?_
  have nd := sc_is_pair.nd
  have tk : Takes (cxD P w K mg base N_is_pair "is_pair" s_is_pair f cdv A outer s H E) (fun c d _ H => E c d H) := takes_of rfl rfl rfl rfl
  exact (dss_one (ds_ret (de_and (de_isi (T := "tuple") (by decide) T.b_isinstance T.b_tuple (de_var 0)) (de_one (de_cmp (op_eqN hr.units) od_eqN (de_callB call_len cd_len T.b_len (da_cons (de_var 0) da_nil)) de_int (nomark _))))))
abbrev s_is_name : Stmt := top 7
abbrev N_is_name : List Str := ["value", "letter"]
theorem sc_is_name : FnScope N_is_name ["value"] (defScope s_is_name) := ⟨rfl, rfl, rfl, by decide +kernel, rfl, by decide +kernel, by decide +kernel⟩
def b_is_name : Sm := cSeq (cIfS (cOrB (cNotB (cB (c1 (gIsi "str") (cVar 0)))) (cNotB (cB (cChain gLtT gLe (cC (.int 0)) (cA gLen (cCons (cVar 0) (cNil))) (cC (.int (8))))))) (cRet (cC (.bl false))) (cNext)) (cRet (cA gAll (cCons (cComp (cIt (cVar 0)) (bName 1) (cYes) (c2 gIn (cVar 1) (cC (.str "abcdefghijklmnopqrstuvwxyz"))) [1]) (cNil))))
def F_is_name : List D → M D := runF 1 2 b_is_name
theorem ok_is_name {P : Program} {w : World} {K : PySem.W.Frag} {mg : Str → Option Value} {base : Heap} {cl : Cls_} {tk_LETTERS tk_MAX_LETTERS tk_MAX_MODES tk_MAX_MOVES tk_MAX_POINTS : Tok} (T : Txt mg tk_LETTERS tk_MAX_LETTERS tk_MAX_MODES tk_MAX_MOVES tk_MAX_POINTS) (fd : Fd K mg "is_name" "is_name" s_is_name ["value"]) : Cal P w K mg base cl "is_name" 1 ["value"] F_is_name := by
  refine fd.cal sc_is_name fun f cdv A outer s H E hr => ?_
  have nd := sc_is_name.nd
  have tk : Takes (cxD P w K mg base N_is_name "is_name" s_is_name f cdv A outer s H E) (fun c d _ H => E c d H) := takes_of rfl rfl rfl rfl
  exact (dss_cons (ds_if (dw_t (dw_or (dt_not (dt_val (de_isi (T := "str") (by decide) T.b_isinstance T.b_str (de_var 0)))) (dw_or1 (dt_not (dt_chain (op_ltB hr.units) op_leA od_ltB od_le de_int (de_callB call_len cd_len T.b_len (da_cons (de_var 0) da_nil)) (de_gint T.g_MAX_LETTERS)))))) (dss_one (ds_ret de_bl)) dss_nil) (dss_one (ds_ret (de_callB (cr_all rfl) cd_all T.b_all (da_cons (de_lc [("letter", 1)] rfl nd (di_seq (de_var 0)) (blkOk_by (own := [("letter", 1)]) (N := N_is_name) (sc := defScope s_is_name) (by decide +kernel)) (fun _ _ _ _ _ => (dg_name (i := 1) nd)) (fun _ _ _ _ _ => by exact dts_nil) (fun _ _ _ _ _ => by exact (de_cmp (op_inA hr.un65) od_in (de_var 1) (de_gstr T.g_LETTERS) (by rfl)))) da_nil)))))
abbrev s_is_mode_set : Stmt := top 15
abbrev N_is_mode_set : List Str := ["value", "modes", "mode"]
theorem sc_is_mode_set : FnScope N_is_mode_set ["value", "modes"] (defScope s_is_mode_set) := ⟨rfl, rfl, rfl, by decide +kernel, rfl, by decide +kernel, by decide +kernel⟩
def b_is_mode_set : Sm := cSeq (cIfS (cOrB (cNotB (cB (c1 (gIsi "tuple") (cVar 0)))) (cB (c2 gEqN (cVar 0) (cA gTup (cNil))))) (cRet (cC (.bl false))) (cNext)) (cRet (cAndV (cA gAll (cCons (cComp (cIt (cVar 0)) (bName 2) (cYes) (cCall 2 F_is_below (cCons (cVar 2) (cCons (cVar 1) (cNil)))) [2]) (cNil))) (cCall 1 F_is_ascending (cCons (cVar 0) (cNil)))))
def F_is_mode_set : List D → M D := runF 2 3 b_is_mode_set
theorem ok_is_mode_set {P : Program} {w : World} {K : PySem.W.Frag} {mg : Str → Option Value} {base : Heap} {cl : Cls_} {tk_LETTERS tk_MAX_LETTERS tk_MAX_MODES tk_MAX_MOVES tk_MAX_POINTS : Tok} (T : Txt mg tk_LETTERS tk_MAX_LETTERS tk_MAX_MODES tk_MAX_MOVES tk_MAX_POINTS) (fd : Fd K mg "is_mode_set" "is_mode_set" s_is_mode_set ["value", "modes"]) (C_is_below : Cal P w K mg base cl "is_below" 2 ["value", "limit"] F_is_below) (C_is_ascending : Cal P w K mg base cl "is_ascending" 1 ["items"] F_is_ascending) : Cal P w K mg base cl "is_mode_set" 3 ["value", "modes"] F_is_mode_set := by
  refine fd.cal sc_is_mode_set fun f cdv A outer s H E hr => ?_
  have nd := sc_is_mode_set.nd
  have tk : Takes (cxD P w K mg base N_is_mode_set "is_mode_set" s_is_mode_set f cdv A outer s H E) (fun c d _ H => E c d H) := takes_of rfl rfl rfl rfl
  exact (dss_cons (ds_if (dw_t (dw_or (dt_not (dt_val (de_isi (T := "tuple") (by decide) T.b_isinstance T.b_tuple (de_var 0)))) (dw_or1 (dt_cmp (op_eqN hr.units) od_eqN (de_var 0) (de_tup da_nil) (nomark _))))) (dss_one (ds_ret de_bl)) dss_nil) (dss_one (ds_ret (de_and (de_callB (cr_all rfl) cd_all T.b_all (da_cons (de_lc [("mode", 2)] rfl nd (di_seq (de_var 0)) (blkOk_by (own := [("mode", 2)]) (N := N_is_mode_set) (sc := defScope s_is_mode_set) (by decide +kernel)) (fun _ _ _ _ _ => (dg_name (i := 2) nd)) (fun _ _ _ _ _ => by exact dts_nil) (fun _ _ _ _ _ => by exact (de_cal C_is_below (hr.mono (by decide)) takes0 (da_cons (de_var 2) (da_cons (de_var 1) da_nil))))) da_nil)) (de_one (de_cal C_is_ascending (hr.mono (by decide)) tk (da_cons (de_var 0) da_nil)))))))
abbrev s_are_pairs : Stmt := top 16
abbrev N_are_pairs : List Str := ["value", "pair", "mode"]
theorem sc_are_pairs : FnScope N_are_pairs ["value"] (defScope s_are_pairs) := ⟨rfl, rfl, rfl, by decide +kernel, rfl, by decide +kernel, by decide +kernel⟩
def b_are_pairs : Sm := cSeq (cIfS (cOrB (cNotB (cB (c1 (gIsi "tuple") (cVar 0)))) (cOrB (cB (c2 gEqN (cVar 0) (cA gTup (cNil)))) (cNotB (cB (cA gAll (cCons (cComp (cIt (cVar 0)) (bName 1) (cYes) (cCall 1 F_is_pair (cCons (cVar 1) (cNil))) [1]) (cNil))))))) (cRet (cC (.bl false))) (cNext)) (cSeq (cIfS (cNotB (cB (cA gAll (cCons (cComp2 (cIt (cVar 0)) (bName 1) (cYes) (cIt (cVar 1)) (bName 2) (cYes) (cCall 2 F_is_below (cCons (cVar 2) (cCons (cC (.int (5))) (cNil)))) [1, 2] [2]) (cNil))))) (cRet (cC (.bl false))) (cNext)) (cRet (cCall 1 F_is_ascending (cCons (cVar 0) (cNil)))))
def F_are_pairs : List D → M D := runF 1 3 b_are_pairs
theorem ok_are_pairs {P : Program} {w : World} {K : PySem.W.Frag} {mg : Str → Option Value} {base : Heap} {cl : Cls_} {tk_LETTERS tk_MAX_LETTERS tk_MAX_MODES tk_MAX_MOVES tk_MAX_POINTS : Tok} (T : Txt mg tk_LETTERS tk_MAX_LETTERS tk_MAX_MODES tk_MAX_MOVES tk_MAX_POINTS) (fd : Fd K mg "are_pairs" "are_pairs" s_are_pairs ["value"]) (C_is_ascending : Cal P w K mg base cl "is_ascending" 1 ["items"] F_is_ascending) (C_is_below : Cal P w K mg base cl "is_below" 2 ["value", "limit"] F_is_below) (C_is_pair : Cal P w K mg base cl "is_pair" 1 ["value"] F_is_pair) : Cal P w K mg base cl "are_pairs" 3 ["value"] F_are_pairs := by
  refine fd.cal sc_are_pairs fun f cdv A outer s H E hr => ?_
  have nd := sc_are_pairs.nd
  have tk : Takes (cxD P w K mg base N_are_pairs "are_pairs" s_are_pairs f cdv A outer s H E) (fun c d _ H => E c d H) := takes_of rfl rfl rfl rfl
  exact (dss_cons (ds_if (dw_t (dw_or (dt_not (dt_val (de_isi (T := "tuple") (by decide) T.b_isinstance T.b_tuple (de_var 0)))) (dw_or (dt_cmp (op_eqN hr.units) od_eqN (de_var 0) (de_tup da_nil) (nomark _)) (dw_or1 (dt_not (dt_val (de_callB (cr_all rfl) cd_all T.b_all (da_cons (de_lc [("pair", 1)] rfl nd (di_seq (de_var 0)) (blkOk_by (own := [("pair", 1)]) (N := N_are_pairs) (sc := defScope s_are_pairs) (by decide +kernel)) (fun _ _ _ _ _ => (dg_name (i := 1) nd)) (fun _ _ _ _ _ => by exact dts_nil) (fun _ _ _ _ _ => by exact (de_cal C_is_pair (hr.mono (by decide)) takes0 (da_cons (de_var 1) da_nil)))) da_nil)))))))) (dss_one (ds_ret de_bl)) dss_nil) (dss_cons (ds_if (dt_not (dt_val (de_callB (cr_all rfl) cd_all T.b_all (da_cons (de_lc2 [("pair", 1), ("mode", 2)] [2] rfl nd (di_seq (de_var 0)) (blkOk_by (own := [("pair", 1), ("mode", 2)]) (N := N_are_pairs) (sc := defScope s_are_pairs) (by decide +kernel)) (fun _ _ _ _ _ => (dg_name (i := 1) nd)) (fun _ _ _ _ _ => by exact dts_nil) (fun _ _ _ _ _ => by exact (di_seq (de_var 1))) (fun _ _ _ _ _ => (dg_name (i := 2) nd)) (fun _ _ _ _ _ => by exact dts_nil) (fun _ _ _ _ _ => by exact (de_cal C_is_below (hr.mono (by decide)) takes0 (da_cons (de_var 2) (da_cons (de_gint T.g_MAX_MODES) da_nil))))) da_nil)))) (dss_one (ds_ret de_bl)) dss_nil) (dss_one (ds_ret (de_cal C_is_ascending (hr.mono (by decide)) tk (da_cons (de_var 0) da_nil))))))
abbrev s_is_move : Stmt := top 17
abbrev N_is_move : List Str := ["value", "points", "here", "there", "pairs", "name", "modes"]
theorem sc_is_move : FnScope N_is_move ["value", "points"] (defScope s_is_move) := ⟨rfl, rfl, rfl, by decide +kernel, rfl, by decide +kernel, by decide +kernel⟩
def b_is_move : Sm := cSeq (cIfS (cNotB (cB (c1 (gIsi "tuple") (cVar 0)))) (cRet (cC (.bl false))) (cNext)) (cSeq (cMatch (cVar 0) (kCons (mSeq 4 (mCons (mVal (.str "go")) (mCons (mCap 2) (mCons (mCap 3) (mCons (mCap 4) (mNil)))))) (cRet (cAndV (cCall 2 F_is_below (cCons (cVar 2) (cCons (cVar 1) (cNil)))) (cAndV (cCall 2 F_is_below (cCons (cVar 3) (cCons (cVar 1) (cNil)))) (cCall 1 F_are_pairs (cCons (cVar 4) (cNil)))))) (kCons (mSeq 5 (mCons (mOr (mVal (.str "call")) (mVal (.str "post"))) (mCons (mCap 2) (mCons (mCap 3) (mCons (mCap 5) (mCons (mCap 6) (mNil))))))) (cSeq (cIfS (cOrB (cNotB (cB (cCall 2 F_is_below (cCons (cVar 2) (cCons (cVar 1) (cNil)))))) (cOrB (cNotB (cB (cCall 2 F_is_below (cCons (cVar 3) (cCons (cVar 1) (cNil)))))) (cNotB (cB (cCall 1 F_is_name (cCons (cVar 5) (cNil))))))) (cRet (cC (.bl false))) (cNext)) (cRet (cCall 2 F_is_mode_set (cCons (cVar 6) (cCons (cC (.int (5))) (cNil)))))) (kCons (mSeq 3 (mCons (mVal (.str "leave")) (mCons (mCap 2) (mCons (mCap 6) (mNil))))) (cRet (cAndV (cCall 2 F_is_below (cCons (cVar 2) (cCons (cVar 1) (cNil)))) (cCall 2 F_is_mode_set (cCons (cVar 6) (cCons (cC (.int (5))) (cNil)))))) (kNil))))) (cRet (cC (.bl false))))
def F_is_move : List D → M D := runF 2 7 b_is_move
theorem ok_is_move {P : Program} {w : World} {K : PySem.W.Frag} {mg : Str → Option Value} {base : Heap} {cl : Cls_} {tk_LETTERS tk_MAX_LETTERS tk_MAX_MODES tk_MAX_MOVES tk_MAX_POINTS : Tok} (T : Txt mg tk_LETTERS tk_MAX_LETTERS tk_MAX_MODES tk_MAX_MOVES tk_MAX_POINTS) (fd : Fd K mg "is_move" "is_move" s_is_move ["value", "points"]) (C_is_below : Cal P w K mg base cl "is_below" 2 ["value", "limit"] F_is_below) (C_is_mode_set : Cal P w K mg base cl "is_mode_set" 3 ["value", "modes"] F_is_mode_set) (C_is_name : Cal P w K mg base cl "is_name" 1 ["value"] F_is_name) (C_are_pairs : Cal P w K mg base cl "are_pairs" 3 ["value"] F_are_pairs) : Cal P w K mg base cl "is_move" 4 ["value", "points"] F_is_move := by
  refine fd.cal sc_is_move fun f cdv A outer s H E hr => ?_
  have nd := sc_is_move.nd
  have tk : Takes (cxD P w K mg base N_is_move "is_move" s_is_move f cdv A outer s H E) (fun c d _ H => E c d H) := takes_of rfl rfl rfl rfl
  exact (dss_cons (ds_if (dt_not (dt_val (de_isi (T := "tuple") (by decide) T.b_isinstance T.b_tuple (de_var 0)))) (dss_one (ds_ret de_bl)) dss_nil) (dss_cons (ds_match (de_var 0) (pcs_cons nd (pm_seq rfl (pms_cons (pm_val hr.units) (pms_cons (pm_cap (i := 2)) (pms_cons (pm_cap (i := 3)) (pms_cons (pm_cap (i := 4)) pms_nil))))) (dss_one (ds_ret (de_and (de_cal C_is_below (hr.mono (by decide)) tk (da_cons (de_var 2) (da_cons (de_var 1) da_nil))) (de_and (de_cal C_is_below (hr.mono (by decide)) tk (da_cons (de_var 3) (da_cons (de_var 1) da_nil))) (de_one (de_cal C_are_pairs (hr.mono (by decide)) tk (da_cons (de_var 4) da_nil))))))) (pcs_cons nd (pm_seq rfl (pms_cons (pm_or (pm_val hr.units) (pm_val hr.units)) (pms_cons (pm_cap (i := 2)) (pms_cons (pm_cap (i := 3)) (pms_cons (pm_cap (i := 5)) (pms_cons (pm_cap (i := 6)) pms_nil)))))) (dss_cons (ds_if (dw_t (dw_or (dt_not (dt_val (de_cal C_is_below (hr.mono (by decide)) tk (da_cons (de_var 2) (da_cons (de_var 1) da_nil))))) (dw_or (dt_not (dt_val (de_cal C_is_below (hr.mono (by decide)) tk (da_cons (de_var 3) (da_cons (de_var 1) da_nil))))) (dw_or1 (dt_not (dt_val (de_cal C_is_name (hr.mono (by decide)) tk (da_cons (de_var 5) da_nil)))))))) (dss_one (ds_ret de_bl)) dss_nil) (dss_one (ds_ret (de_cal C_is_mode_set (hr.mono (by decide)) tk (da_cons (de_var 6) (da_cons (de_gint T.g_MAX_MODES) da_nil)))))) (pcs_cons nd (pm_seq rfl (pms_cons (pm_val hr.units) (pms_cons (pm_cap (i := 2)) (pms_cons (pm_cap (i := 6)) pms_nil)))) (dss_one (ds_ret (de_and (de_cal C_is_below (hr.mono (by decide)) tk (da_cons (de_var 2) (da_cons (de_var 1) da_nil))) (de_one (de_cal C_is_mode_set (hr.mono (by decide)) tk (da_cons (de_var 6) (da_cons (de_gint T.g_MAX_MODES) da_nil))))))) pcs_nil)))) (dss_one (ds_ret de_bl))))
abbrev s_law_numbers : Stmt := top 21
abbrev N_law_numbers : List Str := ["script", "at", "cell", "whole", "mixed"]
theorem sc_law_numbers : FnScope N_law_numbers ["script", "at"] (defScope s_law_numbers) := ⟨rfl, rfl, rfl, by decide +kernel, rfl, by decide +kernel, by decide +kernel⟩
def b_law_numbers : Sm := cSeq (cAsg (cIf (cB (c2 gLtT (cVar 1) (cA gLen (cCons (cVar 0) (cNil))))) (c2 gIx (cVar 0) (cVar 1)) (c2 gAdd (c2 gMulA (cC (.int 67)) (cVar 1)) (cC (.int 23)))) (bName 2)) (cSeq (cAsg (c2 gMod (cA gInt (cCons (cA gAbs (cCons (cVar 2) (cNil))) (cNil))) (c2 gPow (c2 gPow (cC (.int 10)) (cC (.int 57))) (cC (.int 11)))) (bName 3)) (cSeq (cAsg (c2 gAdd (c2 gAdd (c2 gAdd (c2 gMulA (cVar 3) (cC (.int 1000151))) (c2 gMulA (cC (.int 8243)) (cVar 1))) (c2 gMulA (cC (.int 43)) (cA gInt (cCons (c2 gLtT (cVar 2) (cC (.int 0))) (cNil))))) (cC (.int 9))) (bName 4)) (cRet (cA gLstM (cCons (cA gMax2 (cCons (cC (.int 0)) (cCons (c2 gSub (cVar 3) (c2 gPow (cC (.int 10)) (cC (.int 16)))) (cNil)))) (cCons (c2 gMod (cA gInt (cCons (cVar 4) (cNil))) (cC (.int 1152921504606846877))) (cCons (cC (.int 0)) (cNil))))))))
def F_law_numbers : List D → M D := runF 2 5 b_law_numbers
theorem ok_law_numbers {P : Program} {w : World} {K : PySem.W.Frag} {mg : Str → Option Value} {base : Heap} {cl : Cls_} {tk_LETTERS tk_MAX_LETTERS tk_MAX_MODES tk_MAX_MOVES tk_MAX_POINTS : Tok} (T : Txt mg tk_LETTERS tk_MAX_LETTERS tk_MAX_MODES tk_MAX_MOVES tk_MAX_POINTS) (fd : Fd K mg "_law_numbers" "_law_numbers" s_law_numbers ["script", "at"]) : Cal P w K mg base cl "_law_numbers" 1 ["script", "at"] F_law_numbers := by
  refine fd.cal sc_law_numbers fun f cdv A outer s H E hr => ?_
  have nd := sc_law_numbers.nd
  have tk : Takes (cxD P w K mg base N_law_numbers "_law_numbers" s_law_numbers f cdv A outer s H E) (fun c d _ H => E c d H) := takes_of rfl rfl rfl rfl
  exact (dss_cons (ds_set 2 nd (de_if (dt_cmp (op_ltB hr.units) od_ltB (de_var 1) (de_callB call_len cd_len T.b_len (da_cons (de_var 0) da_nil)) (nomark _)) (de_ix (de_var 0) (de_var 1)) (de_add (de_bin op_mulB od_mulB de_int (de_var 1)) de_int))) (dss_cons (ds_set 3 nd (de_mod (de_callTy call_int1 cd_int T.b_int (da_cons (de_callB call_abs cd_abs T.b_abs (da_cons (de_var 2) da_nil)) da_nil)) (de_pow (de_pow de_int de_int) de_int))) (dss_cons (ds_set 4 nd (de_add (de_add (de_add (de_bin op_mulB od_mulB (de_var 3) de_int) (de_bin op_mulB od_mulB de_int (de_var 1))) (de_bin op_mulB od_mulB de_int (de_callTy call_int1 cd_int T.b_int (da_cons (de_cmp (op_ltB hr.units) od_ltB (de_var 2) de_int (nomark _)) da_nil)))) de_int)) (dss_one (ds_ret (de_lstM (da_cons (de_callB (call_max2 rfl) cd_max2 T.b_max (da_cons de_int (da_cons (de_sub (de_var 3) (de_pow de_int de_int)) da_nil))) (da_cons (de_mod (de_callTy call_int1 cd_int T.b_int (da_cons (de_var 4) da_nil)) de_int) (da_cons de_int da_nil)))))))))
abbrev s_law_cast : Stmt := top 22
abbrev N_law_cast : List Str := ["die", "total", "one", "two", "found"]
theorem sc_law_cast : FnScope N_law_cast ["die", "total"] (defScope s_law_cast) := ⟨rfl, rfl, rfl, by decide +kernel, rfl, by decide +kernel, by decide +kernel⟩
def b_law_cast : Sm := cSeq (cIfS (cB (c2 gGt (c2 gIx (cVar 0) (cC (.int 0))) (cC (.int 0)))) (cSeq (cAsg (c2 gMod (cA gInt (cCons (c2 gIx (cVar 0) (cC (.int 0))) (cNil))) (cVar 1)) (bName 4)) (cSeq (cSetI (c2 gFdiv (c2 gIx (cVar 0) (cC (.int 0))) (cVar 1)) (cVar 0) (cC (.int 0))) (cRet (cVar 4)))) (cNext)) (cSeq (cSetI (c2 gAdd (c2 gIx (cVar 0) (cC (.int 2))) (cC (.int 1))) (cVar 0) (cC (.int 2))) (cSeq (cAsg (c2 gMod (cA gInt (cCons (c2 gAdd (c2 gIx (cVar 0) (cC (.int 1))) (c2 gMulA (cC (.int 654188429)) (c2 gIx (cVar 0) (cC (.int 2))))) (cNil))) (cC (.int 2305843009213693913))) (bName 2)) (cSeq (cAsg (c2 gAdd (c2 gMulA (c2 gMod (cA gInt (cCons (c2 gMulA (cVar 2) (cVar 2)) (cNil))) (cC (.int 1152921504606846689))) (cVar 2)) (c2 gMulA (cC (.int 7213)) (c2 gIx (cVar 0) (cC (.int 2))))) (bName 3)) (cRet (c2 gMod (cA gInt (cCons (c2 gFdiv (c2 gMod (cA gInt (cCons (c2 gAdd (cVar 3) (c2 gIx (cVar 0) (cC (.int 1)))) (cNil))) (cC (.int 8796093022121))) (cC (.int 64))) (cNil))) (cVar 1))))))
def F_law_cast : List D → M D := runF 2 5 b_law_cast
theorem ok_law_cast {P : Program} {w : World} {K : PySem.W.Frag} {mg : Str → Option Value} {base : Heap} {cl : Cls_} {tk_LETTERS tk_MAX_LETTERS tk_MAX_MODES tk_MAX_MOVES tk_MAX_POINTS : Tok} (T : Txt mg tk_LETTERS tk_MAX_LETTERS tk_MAX_MODES tk_MAX_MOVES tk_MAX_POINTS) (fd : Fd K mg "_law_cast" "_law_cast" s_law_cast ["die", "total"]) : Cal P w K mg base cl "_law_cast" 1 ["die", "total"] F_law_cast := by
  refine fd.cal sc_law_cast fun f cdv A outer s H E hr => ?_
  have nd := sc_law_cast.nd
  have tk : Takes (cxD P w K mg base N_law_cast "_law_cast" s_law_cast f cdv A outer s H E) (fun c d _ H => E c d H) := takes_of rfl rfl rfl rfl
  exact (dss_cons (ds_if (dt_cmp op_gt od_gt (de_ix (de_var 0) de_int) de_int (nomark _)) (dss_cons (ds_set 4 nd (de_mod (de_callTy call_int1 cd_int T.b_int (da_cons (de_ix (de_var 0) de_int) da_nil)) (de_var 1))) (dss_cons (ds_setI (de_fdiv (de_ix (de_var 0) de_int) (de_var 1)) (de_var 0) de_int) (dss_one (ds_ret (de_var 4))))) dss_nil) (dss_cons (ds_setI (de_add (de_ix (de_var 0) de_int) de_int) (de_var 0) de_int) (dss_cons (ds_set 2 nd (de_mod (de_callTy call_int1 cd_int T.b_int (da_cons (de_add (de_ix (de_var 0) de_int) (de_bin op_mulB od_mulB de_int (de_ix (de_var 0) de_int))) da_nil)) de_int)) (dss_cons (ds_set 3 nd (de_add (de_bin op_mulB od_mulB (de_mod (de_callTy call_int1 cd_int T.b_int (da_cons (de_bin op_mulB od_mulB (de_var 2) (de_var 2)) da_nil)) de_int) (de_var 2)) (de_bin op_mulB od_mulB de_int (de_ix (de_var 0) de_int)))) (dss_one (ds_ret (de_mod (de_callTy call_int1 cd_int T.b_int (da_cons (de_fdiv (de_mod (de_callTy call_int1 cd_int T.b_int (da_cons (de_add (de_var 3) (de_ix (de_var 0) de_int)) da_nil)) de_int) de_int) da_nil)) (de_var 1))))))))
abbrev s_law_pick : Stmt := top 23
abbrev N_law_pick : List Str := ["die", "items"]
theorem sc_law_pick : FnScope N_law_pick ["die", "items"] (defScope s_law_pick) := ⟨rfl, rfl, rfl, by decide +kernel, rfl, by decide +kernel, by decide +kernel⟩
def b_law_pick : Sm := cRet (c2 gIx (cVar 1) (cCall 2 F_law_cast (cCons (cVar 0) (cCons (cA gLen (cCons (cVar 1) (cNil))) (cNil)))))
def F_law_pick : List D → M D := runF 2 2 b_law_pick
theorem ok_law_pick {P : Program} {w : World} {K : PySem.W.Frag} {mg : Str → Option Value} {base : Heap} {cl : Cls_} {tk_LETTERS tk_MAX_LETTERS tk_MAX_MODES tk_MAX_MOVES tk_MAX_POINTS : Tok} (T : Txt mg tk_LETTERS tk_MAX_LETTERS tk_MAX_MODES tk_MAX_MOVES tk_MAX_POINTS) (fd : Fd K mg "_law_pick" "_law_pick" s_law_pick ["die", "items"]) (C_law_cast : Cal P w K mg base cl "_law_cast" 1 ["die", "total"] F_law_cast) : Cal P w K mg base cl "_law_pick" 2 ["die", "items"] F_law_pick := by
  refine fd.cal sc_law_pick fun f cdv A outer s H E hr => ?_
  have nd := sc_law_pick.nd
  have tk : Takes (cxD P w K mg base N_law_pick "_law_pick" s_law_pick f cdv A outer s H E) (fun c d _ H => E c d H) := takes_of rfl rfl rfl rfl
  exact (dss_one (ds_ret (de_ix (de_var 1) (de_cal C_law_cast (hr.mono (by decide)) tk (da_cons (de_var 0) (da_cons (de_callB call_len cd_len T.b_len (da_cons (de_var 1) da_nil)) da_nil))))))
abbrev s_law_shuffle : Stmt := top 24
abbrev N_law_shuffle : List Str := ["die", "items", "pool", "turn"]
theorem sc_law_shuffle : FnScope N_law_shuffle ["die", "items"] (defScope s_law_shuffle) := ⟨rfl, rfl, rfl, by decide +kernel, rfl, by decide +kernel, by decide +kernel⟩
def b_law_shuffle : Sm := cSeq (cAsg (cA gListM (cCons (cVar 1) (cNil))) (bName 2)) (cRet (cComp (cRng1 (cA gLen (cCons (cVar 1) (cNil)))) (bName 3) (cYes) (cPop (cVar 2) (cCall 2 F_law_cast (cCons (cVar 0) (cCons (cA gLenM (cCons (cVar 2) (cNil))) (cNil))))) [3]))
def F_law_shuffle : List D → M D := runF 2 4 b_law_shuffle
theorem ok_law_shuffle {P : Program} {w : World} {K : PySem.W.Frag} {mg : Str → Option Value} {base : Heap} {cl : Cls_} {tk_LETTERS tk_MAX_LETTERS tk_MAX_MODES tk_MAX_MOVES tk_MAX_POINTS : Tok} (T : Txt mg tk_LETTERS tk_MAX_LETTERS tk_MAX_MODES tk_MAX_MOVES tk_MAX_POINTS) (fd : Fd K mg "_law_shuffle" "_law_shuffle" s_law_shuffle ["die", "items"]) (C_law_cast : Cal P w K mg base cl "_law_cast" 1 ["die", "total"] F_law_cast) : Cal P w K mg base cl "_law_shuffle" 2 ["die", "items"] F_law_shuffle := by
  refine fd.cal sc_law_shuffle fun f cdv A outer s H E hr => ?_
  have nd := sc_law_shuffle.nd
  have tk : Takes (cxD P w K mg base N_law_shuffle "_law_shuffle" s_law_shuffle f cdv A outer s H E) (fun c d _ H => E c d H) := takes_of rfl rfl rfl rfl
  exact (dss_cons (ds_set 2 nd (de_callTy call_list_of cd_listM T.b_list (da_cons (de_var 1) da_nil))) (dss_one (ds_ret (de_lc [("turn", 3)] rfl nd (di_rng1 T.b_range (de_callB call_len cd_len T.b_len (da_cons (de_var 1) da_nil))) (blkOk_by (own := [("turn", 3)]) (N := N_law_shuffle) (sc := defScope s_law_shuffle) (by decide +kernel)) (fun _ _ _ _ _ => (dg_name (i := 3) nd)) (fun _ _ _ _ _ => by exact dts_nil) (fun _ _ _ _ _ => by exact (de_pop (de_var 2) (de_cal C_law_cast (hr.mono (by decide)) takes0 (da_cons (de_var 0) (da_cons (de_callB call_len cd_lenM T.b_len (da_cons (de_var 2) da_nil)) da_nil)))))))))
abbrev s_law_subset : Stmt := top 25
abbrev N_law_subset : List Str := ["die", "total", "found", "mode"]
theorem sc_law_subset : FnScope N_law_subset ["die", "total"] (defScope s_law_subset) := ⟨rfl, rfl, rfl, by decide +kernel, rfl, by decide +kernel, by decide +kernel⟩
def b_law_subset : Sm := cSeq (cAsg (cA gTuple (cCons (cComp (cRng1 (cVar 1)) (bName 3) (cB (c2 gGt (cCall 2 F_law_cast (cCons (cVar 0) (cCons (cC (.int 3)) (cNil)))) (cC (.int 0)))) (cVar 3) [3]) (cNil))) (bName 2)) (cRet (cIf (cB (c2 gNeE (cVar 2) (cA gTup (cNil)))) (cVar 2) (cA gTup (cCons (cCall 2 F_law_cast (cCons (cVar 0) (cCons (cVar 1) (cNil)))) (cNil)))))
def F_law_subset : List D → M D := runF 2 4 b_law_subset
theorem ok_law_subset {P : Program} {w : World} {K : PySem.W.Frag} {mg : Str → Option Value} {base : Heap} {cl : Cls_} {tk_LETTERS tk_MAX_LETTERS tk_MAX_MODES tk_MAX_MOVES tk_MAX_POINTS : Tok} (T : Txt mg tk_LETTERS tk_MAX_LETTERS tk_MAX_MODES tk_MAX_MOVES tk_MAX_POINTS) (fd : Fd K mg "_law_subset" "_law_subset" s_law_subset ["die", "total"]) (C_law_cast : Cal P w K mg base cl "_law_cast" 1 ["die", "total"] F_law_cast) : Cal P w K mg base cl "_law_subset" 2 ["die", "total"] F_law_subset := by
  refine fd.cal sc_law_subset fun f cdv A outer s H E hr => ?_
  have nd := sc_law_subset.nd
  have tk : Takes (cxD P w K mg base N_law_subset "_law_subset" s_law_subset f cdv A outer s H E) (fun c d _ H => E c d H) := takes_of rfl rfl rfl rfl
  exact (dss_cons (ds_set 2 nd (de_callTy call_tuple_of cd_tuple T.b_tuple (da_cons (de_lc [("mode", 3)] rfl nd (di_rng1 T.b_range (de_var 1)) (blkOk_by (own := [("mode", 3)]) (N := N_law_subset) (sc := defScope s_law_subset) (by decide +kernel)) (fun _ _ _ _ _ => (dg_name (i := 3) nd)) (fun _ _ _ _ _ => by exact (dts_one (dt_cmp op_gt od_gt (de_cal C_law_cast (hr.mono (by decide)) takes0 (da_cons (de_var 0) (da_cons de_int da_nil))) de_int (nomark _)))) (fun _ _ _ _ _ => by exact (de_var 3))) da_nil))) (dss_one (ds_ret (de_if (dt_cmp (op_neE hr.units) od_neE (de_var 2) (de_tup da_nil) (nomark _)) (de_var 2) (de_tup (da_cons (de_cal C_law_cast (hr.mono (by decide)) tk (da_cons (de_var 0) (da_cons (de_var 1) da_nil))) da_nil))))))
abbrev s_law_is_number : Stmt := top 26
abbrev N_law_is_number : List Str := ["value", "total"]
theorem sc_law_is_number : FnScope N_law_is_number ["value", "total"] (defScope s_law_is_number) := ⟨rfl, rfl, rfl, by decide +kernel, rfl, by decide +kernel, by decide +kernel⟩
def b_law_is_number : Sm := cRet (cAndV (c1 (gIsi "int") (cVar 0)) (cAndV (c1 gNot (c1 (gIsi "bool") (cVar 0))) (cChain gLe gLtT (cC (.int 0)) (cVar 0) (cVar 1))))
def F_law_is_number : List D → M D := runF 2 2 b_law_is_number
theorem ok_law_is_number {P : Program} {w : World} {K : PySem.W.Frag} {mg : Str → Option Value} {base : Heap} {cl : Cls_} {tk_LETTERS tk_MAX_LETTERS tk_MAX_MODES tk_MAX_MOVES tk_MAX_POINTS : Tok} (T : Txt mg tk_LETTERS tk_MAX_LETTERS tk_MAX_MODES tk_MAX_MOVES tk_MAX_POINTS) (fd : Fd K mg "_law_is_number" "_law_is_number" s_law_is_number ["value", "total"]) : Cal P w K mg base cl "_law_is_number" 1 ["value", "total"] F_law_is_number := by
  refine fd.cal sc_law_is_number fun f cdv A outer s H E hr => ?_
  have nd := sc_law_is_number.nd
  have tk : Takes (cxD P w K mg base N_law_is_number "_law_is_number" s_law_is_number f cdv A outer s H E) (fun c d _ H => E c d H) := takes_of rfl rfl rfl rfl
  exact (dss_one (ds_ret (de_and (de_isi (T := "int") (by decide) T.b_isinstance T.b_int (de_var 0)) (de_and (de_not (de_isi (T := "bool") (by decide) T.b_isinstance T.b_bool (de_var 0))) (de_one (de_chain op_leA (op_ltB hr.units) od_le od_ltB de_int (de_var 0) (de_var 1)))))))
abbrev s_law_is_word : Stmt := top 27
abbrev N_law_is_word : List Str := ["value", "one"]
theorem sc_law_is_word : FnScope N_law_is_word ["value"] (defScope s_law_is_word) := ⟨rfl, rfl, rfl, by decide +kernel, rfl, by decide +kernel, by decide +kernel⟩
def b_law_is_word : Sm := cSeq (cIfS (cOrB (cNotB (cB (c1 (gIsi "str") (cVar 0)))) (cNotB (cB (cChain gLe gLe (cC (.int 1)) (cA gLen (cCons (cVar 0) (cNil))) (cC (.int 8)))))) (cRet (cC (.bl false))) (cNext)) (cRet (c2 gEqN (cComp (cIt (cVar 0)) (bName 1) (cNotB (cB (cChain gLe gLe (cC (.str "a")) (cVar 1) (cC (.str "z"))))) (cVar 1) [1]) (cA gLst (cNil))))
def F_law_is_word : List D → M D := runF 1 2 b_law_is_word
theorem ok_law_is_word {P : Program} {w : World} {K : PySem.W.Frag} {mg : Str → Option Value} {base : Heap} {cl : Cls_} {tk_LETTERS tk_MAX_LETTERS tk_MAX_MODES tk_MAX_MOVES tk_MAX_POINTS : Tok} (T : Txt mg tk_LETTERS tk_MAX_LETTERS tk_MAX_MODES tk_MAX_MOVES tk_MAX_POINTS) (fd : Fd K mg "_law_is_word" "_law_is_word" s_law_is_word ["value"]) : Cal P w K mg base cl "_law_is_word" 1 ["value"] F_law_is_word := by
  refine fd.cal sc_law_is_word fun f cdv A outer s H E hr => ?_
  have nd := sc_law_is_word.nd
  have tk : Takes (cxD P w K mg base N_law_is_word "_law_is_word" s_law_is_word f cdv A outer s H E) (fun c d _ H => E c d H) := takes_of rfl rfl rfl rfl
  exact (dss_cons (ds_if (dw_t (dw_or (dt_not (dt_val (de_isi (T := "str") (by decide) T.b_isinstance T.b_str (de_var 0)))) (dw_or1 (dt_not (dt_chain op_leA op_leA od_le od_le de_int (de_callB call_len cd_len T.b_len (da_cons (de_var 0) da_nil)) de_int))))) (dss_one (ds_ret de_bl)) dss_nil) (dss_one (ds_ret (de_cmp (op_eqN hr.units) od_eqN (de_lc [("one", 1)] rfl nd (di_seq (de_var 0)) (blkOk_by (own := [("one", 1)]) (N := N_law_is_word) (sc := defScope s_law_is_word) (by decide +kernel)) (fun _ _ _ _ _ => (dg_name (i := 1) nd)) (fun _ _ _ _ _ => by exact (dts_one (dt_not (dt_chain op_leA op_leA od_le od_le de_str (de_var 1) de_str)))) (fun _ _ _ _ _ => by exact (de_var 1))) (de_lst da_nil) (nomark _)))))
abbrev s_law_is_set : Stmt := top 28
abbrev N_law_is_set : List Str := ["value", "total", "one"]
theorem sc_law_is_set : FnScope N_law_is_set ["value", "total"] (defScope s_law_is_set) := ⟨rfl, rfl, rfl, by decide +kernel, rfl, by decide +kernel, by decide +kernel⟩
def b_law_is_set : Sm := cSeq (cIfS (cOrB (cNotB (cB (c1 (gIsi "tuple") (cVar 0)))) (cB (c2 gEqN (cVar 0) (cA gTup (cNil))))) (cRet (cC (.bl false))) (cNext)) (cSeq (cIfS (cB (c2 gNeE (cComp (cIt (cVar 0)) (bName 2) (cNotB (cB (cCall 2 F_law_is_number (cCons (cVar 2) (cCons (cVar 1) (cNil)))))) (cVar 2) [2]) (cA gLst (cNil)))) (cRet (cC (.bl false))) (cNext)) (cRet (c2 gEqN (cA gList (cCons (cVar 0) (cNil))) (c1 gSortB (cVar 0)))))
def F_law_is_set : List D → M D := runF 2 3 b_law_is_set
theorem ok_law_is_set {P : Program} {w : World} {K : PySem.W.Frag} {mg : Str → Option Value} {base : Heap} {cl : Cls_} {tk_LETTERS tk_MAX_LETTERS tk_MAX_MODES tk_MAX_MOVES tk_MAX_POINTS : Tok} (T : Txt mg tk_LETTERS tk_MAX_LETTERS tk_MAX_MODES tk_MAX_MOVES tk_MAX_POINTS) (fd : Fd K mg "_law_is_set" "_law_is_set" s_law_is_set ["value", "total"]) (C_law_is_number : Cal P w K mg base cl "_law_is_number" 1 ["value", "total"] F_law_is_number) : Cal P w K mg base cl "_law_is_set" 2 ["value", "total"] F_law_is_set := by
  refine fd.cal sc_law_is_set fun f cdv A outer s H E hr => ?_
  have nd := sc_law_is_set.nd
  have tk : Takes (cxD P w K mg base N_law_is_set "_law_is_set" s_law_is_set f cdv A outer s H E) (fun c d _ H => E c d H) := takes_of rfl rfl rfl rfl
  exact (dss_cons (ds_if (dw_t (dw_or (dt_not (dt_val (de_isi (T := "tuple") (by decide) T.b_isinstance T.b_tuple (de_var 0)))) (dw_or1 (dt_cmp (op_eqN hr.units) od_eqN (de_var 0) (de_tup da_nil) (nomark _))))) (dss_one (ds_ret de_bl)) dss_nil) (dss_cons (ds_if (dt_cmp (op_neE hr.units) od_neE (de_lc [("one", 2)] rfl nd (di_seq (de_var 0)) (blkOk_by (own := [("one", 2)]) (N := N_law_is_set) (sc := defScope s_law_is_set) (by decide +kernel)) (fun _ _ _ _ _ => (dg_name (i := 2) nd)) (fun _ _ _ _ _ => by exact (dts_one (dt_not (dt_val (de_cal C_law_is_number (hr.mono (by decide)) takes0 (da_cons (de_var 2) (da_cons (de_var 1) da_nil))))))) (fun _ _ _ _ _ => by exact (de_var 2))) (de_lst da_nil) (nomark _)) (dss_one (ds_ret de_bl)) dss_nil) (dss_one (ds_ret (de_cmp (op_eqN hr.units) od_eqN (de_callTy call_list_of cd_list T.b_list (da_cons (de_var 0) da_nil)) (de_sortSetB rfl hr.units T.b_sorted T.b_set (de_var 0)) (nomark _))))))
abbrev s_law_is_pairs : Stmt := top 29
abbrev N_law_is_pairs : List Str := ["value", "total", "pair"]
theorem sc_law_is_pairs : FnScope N_law_is_pairs ["value", "total"] (defScope s_law_is_pairs) := ⟨rfl, rfl, rfl, by decide +kernel, rfl, by decide +kernel, by decide +kernel⟩
def b_law_is_pairs : Sm := cSeq (cIfS (cOrB (cNotB (cB (c1 (gIsi "tuple") (cVar 0)))) (cB (c2 gEqN (cVar 0) (cA gTup (cNil))))) (cRet (cC (.bl false))) (cNext)) (cSeq (cFor (cIt (cVar 0)) (bName 2) (cSeq (cIfS (cOrB (cNotB (cB (c1 (gIsi "tuple") (cVar 2)))) (cB (c2 gNeE (cA gLen (cCons (cVar 2) (cNil))) (cC (.int 2))))) (cRet (cC (.bl false))) (cNext)) (cIfS (cOrB (cNotB (cB (cCall 2 F_law_is_number (cCons (c2 gIx (cVar 2) (cC (.int 0))) (cCons (cVar 1) (cNil)))))) (cNotB (cB (cCall 2 F_law_is_number (cCons (c2 gIx (cVar 2) (cC (.int 1))) (cCons (cVar 1) (cNil))))))) (cRet (cC (.bl false))) (cNext)))) (cRet (c2 gEqN (cA gList (cCons (cVar 0) (cNil))) (c1 gSortB (cVar 0)))))
def F_law_is_pairs : List D → M D := runF 2 3 b_law_is_pairs
theorem ok_law_is_pairs {P : Program} {w : World} {K : PySem.W.Frag} {mg : Str → Option Value} {base : Heap} {cl : Cls_} {tk_LETTERS tk_MAX_LETTERS tk_MAX_MODES tk_MAX_MOVES tk_MAX_POINTS : Tok} (T : Txt mg tk_LETTERS tk_MAX_LETTERS tk_MAX_MODES tk_MAX_MOVES tk_MAX_POINTS) (fd : Fd K mg "_law_is_pairs" "_law_is_pairs" s_law_is_pairs ["value", "total"]) (C_law_is_number : Cal P w K mg base cl "_law_is_number" 1 ["value", "total"] F_law_is_number) : Cal P w K mg base cl "_law_is_pairs" 2 ["value", "total"] F_law_is_pairs := by
  refine fd.cal sc_law_is_pairs fun f cdv A outer s H E hr => ?_
  have nd := sc_law_is_pairs.nd
  have tk : Takes (cxD P w K mg base N_law_is_pairs "_law_is_pairs" s_law_is_pairs f cdv A outer s H E) (fun c d _ H => E c d H) := takes_of rfl rfl rfl rfl
  exact (dss_cons (ds_if (dw_t (dw_or (dt_not (dt_val (de_isi (T := "tuple") (by decide) T.b_isinstance T.b_tuple (de_var 0)))) (dw_or1 (dt_cmp (op_eqN hr.units) od_eqN (de_var 0) (de_tup da_nil) (nomark _))))) (dss_one (ds_ret de_bl)) dss_nil) (dss_cons (ds_for (passes_of rfl) rfl (di_seq (de_var 0)) (dg_name (i := 2) nd) (dss_cons (ds_if (dw_t (dw_or (dt_not (dt_val (de_isi (T := "tuple") (by decide) T.b_isinstance T.b_tuple (de_var 2)))) (dw_or1 (dt_cmp (op_neE hr.units) od_neE (de_callB call_len cd_len T.b_len (da_cons (de_var 2) da_nil)) de_int (nomark _))))) (dss_one (ds_ret de_bl)) dss_nil) (dss_one (ds_if (dw_t (dw_or (dt_not (dt_val (de_cal C_law_is_number (hr.mono (by decide)) tk (da_cons (de_ix (de_var 2) de_int) (da_cons (de_var 1) da_nil))))) (dw_or1 (dt_not (dt_val (de_cal C_law_is_number (hr.mono (by decide)) tk (da_cons (de_ix (de_var 2) de_int) (da_cons (de_var 1) da_nil)))))))) (dss_one (ds_ret de_bl)) dss_nil)))) (dss_one (ds_ret (de_cmp (op_eqN hr.units) od_eqN (de_callTy call_list_of cd_list T.b_list (da_cons (de_var 0) da_nil)) (de_sortSetB rfl hr.units T.b_sorted T.b_set (de_var 0)) (nomark _))))))
abbrev s_law_bent_tuple : Stmt := top 30
abbrev N_law_bent_tuple : List Str := ["die", "items", "odd", "at", "some"]
theorem sc_law_bent_tuple : FnScope N_law_bent_tuple ["die", "items", "odd"] (defScope s_law_bent_tuple) := ⟨rfl, rfl, rfl, by decide +kernel, rfl, by decide +kernel, by decide +kernel⟩
def b_law_bent_tuple : Sm := cSeq (cAsg (cIf (cB (c2 gNeE (cVar 1) (cA gTup (cNil)))) (cCall 2 F_law_cast (cCons (cVar 0) (cCons (cA gLen (cCons (cVar 1) (cNil))) (cNil)))) (cC (.int 0))) (bName 3)) (cSeq (cSetOwn 4 (cCons (c2 gAdd (c2 gAdd (cSl (cVar 1) (cNoP) (cPart (cVar 3))) (cA gTup (cCons (cVar 2) (cNil)))) (cSl (cVar 1) (cPart (c2 gAdd (cVar 3) (cC (.int 1)))) (cNoP))) (cNil))) (cSeq (cApp 4 (c2 gAdd (cSl (cVar 1) (cNoP) (cPart (cVar 3))) (cSl (cVar 1) (cPart (c2 gAdd (cVar 3) (cC (.int 1)))) (cNoP)))) (cFrz 4 (cSeq (cAsg (c2 gAdd (cVar 4) (cA gLst (cCons (c2 gAdd (cSl (cVar 1) (cNoP) (cPart (c2 gAdd (cVar 3) (cC (.int 1))))) (cSl (cVar 1) (cPart (cVar 3)) (cNoP))) (cCons (c1 gRev (cVar 1)) (cCons (cA gList (cCons (cVar 1) (cNil))) (cNil)))))) (bName 4)) (cSeq (cAsg (c2 gAdd (cVar 4) (cA gLst (cCons (c2 gAdd (cVar 1) (cA gTup (cCons (cVar 2) (cNil)))) (cCons (c2 gAdd (cA gTup (cCons (cVar 2) (cNil))) (cVar 1)) (cCons (cVar 2) (cNil)))))) (bName 4)) (cRet (cCall 2 F_law_pick (cCons (cVar 0) (cCons (cVar 4) (cNil))))))))))
def F_law_bent_tuple : List D → M D := runF 3 5 b_law_bent_tuple
theorem ok_law_bent_tuple {P : Program} {w : World} {K : PySem.W.Frag} {mg : Str → Option Value} {base : Heap} {cl : Cls_} {tk_LETTERS tk_MAX_LETTERS tk_MAX_MODES tk_MAX_MOVES tk_MAX_POINTS : Tok} (T : Txt mg tk_LETTERS tk_MAX_LETTERS tk_MAX_MODES tk_MAX_MOVES tk_MAX_POINTS) (fd : Fd K mg "_law_bent_tuple" "_law_bent_tuple" s_law_bent_tuple ["die", "items", "odd"]) (C_law_pick : Cal P w K mg base cl "_law_pick" 2 ["die", "items"] F_law_pick) (C_law_cast : Cal P w K mg base cl "_law_cast" 1 ["die", "total"] F_law_cast) : Cal P w K mg base cl "_law_bent_tuple" 3 ["die", "items", "odd"] F_law_bent_tuple := by
  refine fd.cal sc_law_bent_tuple fun f cdv A outer s H E hr => ?_
  have nd := sc_law_bent_tuple.nd
  have tk : Takes (cxD P w K mg base N_law_bent_tuple "_law_bent_tuple" s_law_bent_tuple f cdv A outer s H E) (fun c d _ H => E c d H) := takes_of rfl rfl rfl rfl
  exact (dss_cons (ds_set 3 nd (de_if (dt_cmp (op_neE hr.units) od_neE (de_var 1) (de_tup da_nil) (nomark _)) (de_cal C_law_cast (hr.mono (by decide)) tk (da_cons (de_var 0) (da_cons (de_callB call_len cd_len T.b_len (da_cons (de_var 1) da_nil)) da_nil))) de_int)) (dss_cons (ds_setOwn 4 nd (da_cons (de_add (de_add (de_sl (de_var 1) do_none (do_some (de_var 3))) (de_tup (da_cons (de_var 2) da_nil))) (de_sl (de_var 1) (do_some (de_add (de_var 3) de_int)) do_none)) da_nil)) (dss_cons (ds_app 4 (pe_bm PySem.F.plainAttrs_list PySem.F.slot_list_append PySem.F.type_list_append mt_append (pv 4) (pa_cons (de_add (de_sl (de_var 1) do_none (do_some (de_var 3))) (de_sl (de_var 1) (do_some (de_add (de_var 3) de_int)) do_none)) pa_nil))) (dss_frz 4 (dss_cons (ds_set 4 nd (de_add (de_var 4) (de_lst (da_cons (de_add (de_sl (de_var 1) do_none (do_some (de_add (de_var 3) de_int))) (de_sl (de_var 1) (do_some (de_var 3)) do_none)) (da_cons (de_rev (de_var 1)) (da_cons (de_callTy call_list_of cd_list T.b_list (da_cons (de_var 1) da_nil)) da_nil)))))) (dss_cons (ds_set 4 nd (de_add (de_var 4) (de_lst (da_cons (de_add (de_var 1) (de_tup (da_cons (de_var 2) da_nil))) (da_cons (de_add (de_tup (da_cons (de_var 2) da_nil)) (de_var 1)) (da_cons (de_var 2) da_nil)))))) (dss_one (ds_ret (de_cal C_law_pick (hr.mono (by decide)) tk (da_cons (de_var 0) (da_cons (de_var 4) da_nil)))))))))))
abbrev s_law_odd_one : Stmt := top 32
abbrev N_law_odd_one : List Str := ["die", "some"]
theorem sc_law_odd_one : FnScope N_law_odd_one ["die"] (defScope s_law_odd_one) := ⟨rfl, rfl, rfl, by decide +kernel, rfl, by decide +kernel, by decide +kernel⟩
def b_law_odd_one : Sm := cSeq (cAsg (cA gLst (cCons (cC .non) (cCons (cC (.int 0)) (cCons (cC (.int 1)) (cCons (cC (.int 7)) (cCons (cC (.int 99)) (cCons (c1 gNeg (cC (.int 1))) (cCons (cC (.bl true)) (cCons (cC (.bl false)) (cCons (cC (.str "")) (cCons (cC (.str "a")) (cCons (cC (.str "B")) (cCons (cC (.str "abcdefghi")) (cCons (cA gTup (cNil)) (cCons (cA gTup (cCons (cC (.int 0)) (cNil))) (cCons (cA gTup (cCons (cC (.int 1)) (cCons (cC (.int 0)) (cNil)))) (cCons (cA gTup (cCons (cC (.int 0)) (cCons (cC (.int 0)) (cNil)))) (cCons (cA gLst (cCons (cC (.int 0)) (cNil))) (cCons (cC (.dct [])) (cCons (cC (.str "p")) (cNil))))))))))))))))))))) (bName 1)) (cSeq (cAsg (c2 gAdd (cVar 1) (cA gLst (cCons (c2 gPow (cC (.int 10)) (cC (.int 39))) (cCons (cA gTup (cCons (cC .non) (cNil))) (cCons (cA gTup (cCons (cA gTup (cCons (cC (.int 0)) (cCons (cC (.int 0)) (cNil)))) (cNil))) (cCons (cA gTup (cCons (cA gTup (cCons (cC (.int 0)) (cCons (cC (.int 0)) (cNil)))) (cCons (cA gTup (cCons (cC (.int 0)) (cCons (cC (.int 0)) (cNil)))) (cNil)))) (cCons (cA gTup (cCons (cC (.str "a")) (cNil))) (cCons (cA gTup (cCons (cC (.str "p")) (cCons (cC (.int 0)) (cNil)))) (cCons (cC (.str "go")) (cCons (cC (.str "post")) (cCons (cC (.str "call")) (cNil)))))))))))) (bName 1)) (cRet (cCall 2 F_law_pick (cCons (cVar 0) (cCons (cVar 1) (cNil))))))
def F_law_odd_one : List D → M D := runF 1 2 b_law_odd_one
theorem ok_law_odd_one {P : Program} {w : World} {K : PySem.W.Frag} {mg : Str → Option Value} {base : Heap} {cl : Cls_} {tk_LETTERS tk_MAX_LETTERS tk_MAX_MODES tk_MAX_MOVES tk_MAX_POINTS : Tok} (T : Txt mg tk_LETTERS tk_MAX_LETTERS tk_MAX_MODES tk_MAX_MOVES tk_MAX_POINTS) (fd : Fd K mg "_law_odd_one" "_law_odd_one" s_law_odd_one ["die"]) (C_law_pick : Cal P w K mg base cl "_law_pick" 2 ["die", "items"] F_law_pick) : Cal P w K mg base cl "_law_odd_one" 3 ["die"] F_law_odd_one := by
  refine fd.cal sc_law_odd_one fun f cdv A outer s H E hr => ?_
  have nd := sc_law_odd_one.nd
  have tk : Takes (cxD P w K mg base N_law_odd_one "_law_odd_one" s_law_odd_one f cdv A outer s H E) (fun c d _ H => E c d H) := takes_of rfl rfl rfl rfl
  exact (dss_cons (ds_set 1 nd (de_lst (da_cons de_non (da_cons de_int (da_cons de_int (da_cons de_int (da_cons de_int (da_cons (de_neg de_int) (da_cons de_bl (da_cons de_bl (da_cons de_str (da_cons de_str (da_cons de_str (da_cons de_str (da_cons (de_tup da_nil) (da_cons (de_tup (da_cons de_int da_nil)) (da_cons (de_tup (da_cons de_int (da_cons de_int da_nil))) (da_cons (de_tup (da_cons de_int (da_cons de_int da_nil))) (da_cons (de_lst (da_cons de_int da_nil)) (da_cons de_dnew (da_cons de_str da_nil))))))))))))))))))))) (dss_cons (ds_set 1 nd (de_add (de_var 1) (de_lst (da_cons (de_pow de_int de_int) (da_cons (de_tup (da_cons de_non da_nil)) (da_cons (de_tup (da_cons (de_tup (da_cons de_int (da_cons de_int da_nil))) da_nil)) (da_cons (de_tup (da_cons (de_tup (da_cons de_int (da_cons de_int da_nil))) (da_cons (de_tup (da_cons de_int (da_cons de_int da_nil))) da_nil))) (da_cons (de_tup (da_cons de_str da_nil)) (da_cons (de_tup (da_cons de_str (da_cons de_int da_nil))) (da_cons de_str (da_cons de_str (da_cons de_str da_nil)))))))))))) (dss_one (ds_ret (de_cal C_law_pick (hr.mono (by decide)) tk (da_cons (de_var 0) (da_cons (de_var 1) da_nil)))))))
abbrev s_law_bent_move : Stmt := top 31
abbrev N_law_bent_move : List Str := ["die", "move", "at", "odd", "bent"]
theorem sc_law_bent_move : FnScope N_law_bent_move ["die", "move"] (defScope s_law_bent_move) := ⟨rfl, rfl, rfl, by decide +kernel, rfl, by decide +kernel, by decide +kernel⟩
def b_law_bent_move : Sm := cSeq (cPar 2 3 (cCons (cCall 2 F_law_cast (cCons (cVar 0) (cCons (cA gLen (cCons (cVar 1) (cNil))) (cNil)))) (cCons (cCall 1 F_law_odd_one (cCons (cVar 0) (cNil))) (cNil)))) (cSeq (cIfS (cAndB (cB (c1 (gIsi "tuple") (c2 gIx (cVar 1) (cVar 2)))) (cB (c2 gEqN (cCall 2 F_law_cast (cCons (cVar 0) (cCons (cC (.int 2)) (cNil)))) (cC (.int 0))))) (cSeq (cAsg (cCall 3 F_law_bent_tuple (cCons (cVar 0) (cCons (c2 gIx (cVar 1) (cVar 2)) (cCons (cVar 3) (cNil))))) (bName 4)) (cRet (c2 gAdd (c2 gAdd (cSl (cVar 1) (cNoP) (cPart (cVar 2))) (cA gTup (cCons (cVar 4) (cNil)))) (cSl (cVar 1) (cPart (c2 gAdd (cVar 2) (cC (.int 1)))) (cNoP))))) (cNext)) (cRet (cCall 3 F_law_bent_tuple (cCons (cVar 0) (cCons (cVar 1) (cCons (cVar 3) (cNil)))))))
def F_law_bent_move : List D → M D := runF 2 5 b_law_bent_move
theorem ok_law_bent_move {P : Program} {w : World} {K : PySem.W.Frag} {mg : Str → Option Value} {base : Heap} {cl : Cls_} {tk_LETTERS tk_MAX_LETTERS tk_MAX_MODES tk_MAX_MOVES tk_MAX_POINTS : Tok} (T : Txt mg tk_LETTERS tk_MAX_LETTERS tk_MAX_MODES tk_MAX_MOVES tk_MAX_POINTS) (fd : Fd K mg "_law_bent_move" "_law_bent_move" s_law_bent_move ["die", "move"]) (C_law_bent_tuple : Cal P w K mg base cl "_law_bent_tuple" 3 ["die", "items", "odd"] F_law_bent_tuple) (C_law_cast : Cal P w K mg base cl "_law_cast" 1 ["die", "total"] F_law_cast) (C_law_odd_one : Cal P w K mg base cl "_law_odd_one" 3 ["die"] F_law_odd_one) : Cal P w K mg base cl "_law_bent_move" 4 ["die", "move"] F_law_bent_move := by
  refine fd.cal sc_law_bent_move fun f cdv A outer s H E hr => ?_
  have nd := sc_law_bent_move.nd
  have tk : Takes (cxD P w K mg base N_law_bent_move "_law_bent_move" s_law_bent_move f cdv A outer s H E) (fun c d _ H => E c d H) := takes_of rfl rfl rfl rfl
  exact (dss_cons (ds_par 2 3 rfl nd (da_cons (de_cal C_law_cast (hr.mono (by decide)) tk (da_cons (de_var 0) (da_cons (de_callB call_len cd_len T.b_len (da_cons (de_var 1) da_nil)) da_nil))) (da_cons (de_cal C_law_odd_one (hr.mono (by decide)) tk (da_cons (de_var 0) da_nil)) da_nil))) (dss_cons (ds_if (dw_t (dw_and (dt_val (de_isi (T := "tuple") (by decide) T.b_isinstance T.b_tuple (de_ix (de_var 1) (de_var 2)))) (dw_and1 (dt_cmp (op_eqN hr.units) od_eqN (de_cal C_law_cast (hr.mono (by decide)) tk (da_cons (de_var 0) (da_cons de_int da_nil))) de_int (nomark _))))) (dss_cons (ds_set 4 nd (de_cal C_law_bent_tuple (hr.mono (by decide)) tk (da_cons (de_var 0) (da_cons (de_ix (de_var 1) (de_var 2)) (da_cons (de_var 3) da_nil))))) (dss_one (ds_ret (de_add (de_add (de_sl (de_var 1) do_none (do_some (de_var 2))) (de_tup (da_cons (de_var 4) da_nil))) (de_sl (de_var 1) (do_some (de_add (de_var 2) de_int)) do_none))))) dss_nil) (dss_one (ds_ret (de_cal C_law_bent_tuple (hr.mono (by decide)) tk (da_cons (de_var 0) (da_cons (de_var 1) (da_cons (de_var 3) da_nil))))))))
abbrev s_law_a_move : Stmt := top 33
abbrev N_law_a_move : List Str := ["die", "total", "points", "names", "pairs", "turn", "here", "there", "way", "some"]
theorem sc_law_a_move : FnScope N_law_a_move ["die", "total", "points", "names"] (defScope s_law_a_move) := ⟨rfl, rfl, rfl, by decide +kernel, rfl, by decide +kernel, by decide +kernel⟩
def b_law_a_move : Sm := cSeq (cPar 6 7 (cCons (cCall 2 F_law_pick (cCons (cVar 0) (cCons (cA gLst (cCons (cC (.int 0)) (cCons (cCall 2 F_law_cast (cCons (cVar 0) (cCons (cVar 2) (cNil)))) (cNil)))) (cNil)))) (cCons (cCall 2 F_law_cast (cCons (cVar 0) (cCons (cVar 2) (cNil)))) (cNil)))) (cSeq (cPar 8 9 (cCons (cCall 2 F_law_cast (cCons (cVar 0) (cCons (cC (.int 10)) (cNil)))) (cCons (cCall 2 F_law_subset (cCons (cVar 0) (cCons (cVar 1) (cNil)))) (cNil)))) (cSeq (cIfS (cB (c2 gLtT (cVar 8) (cC (.int 5)))) (cRet (cA gTup (cCons (cCall 2 F_law_pick (cCons (cVar 0) (cCons (cA gLst (cCons (cC (.str "call")) (cCons (cC (.str "post")) (cCons (cC (.str "post")) (cNil))))) (cNil)))) (cCons (cVar 6) (cCons (cVar 7) (cCons (cCall 2 F_law_pick (cCons (cVar 0) (cCons (cVar 3) (cNil)))) (cCons (cVar 9) (cNil)))))))) (cNext)) (cSeq (cIfS (cB (c2 gLtT (cVar 8) (cC (.int 8)))) (cRet (cA gTup (cCons (cC (.str "leave")) (cCons (cVar 6) (cCons (cVar 9) (cNil)))))) (cNext)) (cSeq (cSetOwn 4 (cNil)) (cSeq (cFor (cRng1 (c2 gAdd (cC (.int 1)) (cCall 2 F_law_cast (cCons (cVar 0) (cCons (cC (.int 3)) (cNil)))))) (bName 5) (cApp 4 (cA gTup (cCons (cCall 2 F_law_cast (cCons (cVar 0) (cCons (cVar 1) (cNil)))) (cCons (cCall 2 F_law_cast (cCons (cVar 0) (cCons (cVar 1) (cNil)))) (cNil)))))) (cFrz 4 (cRet (cA gTup (cCons (cC (.str "go")) (cCons (cVar 6) (cCons (cVar 7) (cCons (cA gTuple (cCons (c1 gSortB (cVar 4)) (cNil))) (cNil)))))))))))))
def F_law_a_move : List D → M D := runF 4 10 b_law_a_move
theorem ok_law_a_move {P : Program} {w : World} {K : PySem.W.Frag} {mg : Str → Option Value} {base : Heap} {cl : Cls_} {tk_LETTERS tk_MAX_LETTERS tk_MAX_MODES tk_MAX_MOVES tk_MAX_POINTS : Tok} (T : Txt mg tk_LETTERS tk_MAX_LETTERS tk_MAX_MODES tk_MAX_MOVES tk_MAX_POINTS) (fd : Fd K mg "_law_a_move" "_law_a_move" s_law_a_move ["die", "total", "points", "names"]) (C_law_cast : Cal P w K mg base cl "_law_cast" 1 ["die", "total"] F_law_cast) (C_law_pick : Cal P w K mg base cl "_law_pick" 2 ["die", "items"] F_law_pick) (C_law_subset : Cal P w K mg base cl "_law_subset" 2 ["die", "total"] F_law_subset) : Cal P w K mg base cl "_law_a_move" 3 ["die", "total", "points", "names"] F_law_a_move := by
  refine fd.cal sc_law_a_move fun f cdv A outer s H E hr => ?_
  have nd := sc_law_a_move.nd
  have tk : Takes (cxD P w K mg base N_law_a_move "_law_a_move" s_law_a_move f cdv A outer s H E) (fun c d _ H => E c d H) := takes_of rfl rfl rfl rfl
  exact (dss_cons (ds_par 6 7 rfl nd (da_cons (de_cal C_law_pick (hr.mono (by decide)) tk (da_cons (de_var 0) (da_cons (de_lst (da_cons de_int (da_cons (de_cal C_law_cast (hr.mono (by decide)) tk (da_cons (de_var 0) (da_cons (de_var 2) da_nil))) da_nil))) da_nil))) (da_cons (de_cal C_law_cast (hr.mono (by decide)) tk (da_cons (de_var 0) (da_cons (de_var 2) da_nil))) da_nil))) (dss_cons (ds_par 8 9 rfl nd (da_cons (de_cal C_law_cast (hr.mono (by decide)) tk (da_cons (de_var 0) (da_cons de_int da_nil))) (da_cons (de_cal C_law_subset (hr.mono (by decide)) tk (da_cons (de_var 0) (da_cons (de_var 1) da_nil))) da_nil))) (dss_cons (ds_if (dt_cmp (op_ltB hr.units) od_ltB (de_var 8) de_int (nomark _)) (dss_one (ds_ret (de_tup (da_cons (de_cal C_law_pick (hr.mono (by decide)) tk (da_cons (de_var 0) (da_cons (de_lst (da_cons de_str (da_cons de_str (da_cons de_str da_nil)))) da_nil))) (da_cons (de_var 6) (da_cons (de_var 7) (da_cons (de_cal C_law_pick (hr.mono (by decide)) tk (da_cons (de_var 0) (da_cons (de_var 3) da_nil))) (da_cons (de_var 9) da_nil)))))))) dss_nil) (dss_cons (ds_if (dt_cmp (op_ltB hr.units) od_ltB (de_var 8) de_int (nomark _)) (dss_one (ds_ret (de_tup (da_cons de_str (da_cons (de_var 6) (da_cons (de_var 9) da_nil)))))) dss_nil) (dss_cons (ds_setOwn 4 nd da_nil) (dss_cons (ds_for (passes_of rfl) rfl (di_rng1 T.b_range (de_add de_int (de_cal C_law_cast (hr.mono (by decide)) tk (da_cons (de_var 0) (da_cons de_int da_nil))))) (dg_name (i := 5) nd) (dss_one (ds_app 4 (pe_bm PySem.F.plainAttrs_list PySem.F.slot_list_append PySem.F.type_list_append mt_append (pv 4) (pa_cons (de_tup (da_cons (de_cal C_law_cast (hr.mono (by decide)) tk (da_cons (de_var 0) (da_cons (de_var 1) da_nil))) (da_cons (de_cal C_law_cast (hr.mono (by decide)) tk (da_cons (de_var 0) (da_cons (de_var 1) da_nil))) da_nil))) pa_nil))))) (dss_frz 4 (dss_one (ds_ret (de_tup (da_cons de_str (da_cons (de_var 6) (da_cons (de_var 7) (da_cons (de_callTy call_tuple_of cd_tuple T.b_tuple (da_cons (de_sortSetB rfl hr.units T.b_sorted T.b_set (de_var 4)) da_nil)) da_nil))))))))))))))
abbrev s_law_any_plain : Stmt := top 34
abbrev N_law_any_plain : List Str := ["die", "names", "name", "begin", "total", "bands", "turn", "points", "moves"]
theorem sc_law_any_plain : FnScope N_law_any_plain ["die"] (defScope s_law_any_plain) := ⟨rfl, rfl, rfl, by decide +kernel, rfl, by decide +kernel, by decide +kernel⟩
def b_law_any_plain : Sm := cSeq (cParV 4 5 (cCall 2 F_law_pick (cCons (cVar 0) (cCons (cA gLst (cCons (cC (.int 2)) (cCons (cC (.int 3)) (cCons (cC (.int 1)) (cCons (cC (.int 2)) (cNil)))))) (cNil)))) (cNil)) (cSeq (cAsg (cSl (cCall 2 F_law_shuffle (cCons (cVar 0) (cCons (cA gLst (cCons (cC (.str "main")) (cCons (cC (.str "p")) (cCons (cC (.str "q")) (cNil))))) (cNil)))) (cNoP) (cPart (cCall 2 F_law_pick (cCons (cVar 0) (cCons (cA gLst (cCons (cC (.int 2)) (cCons (cC (.int 3)) (cCons (cC (.int 1)) (cCons (cC (.int 2)) (cNil)))))) (cNil)))))) (bName 1)) (cSeq (cFor (cIt (cVar 1)) (bName 2) (cSeq (cParV 7 8 (cCall 2 F_law_pick (cCons (cVar 0) (cCons (cA gLst (cCons (cC (.int 2)) (cCons (cC (.int 1)) (cCons (cC (.int 3)) (cCons (cC (.int 2)) (cNil)))))) (cNil)))) (cNil)) (cSeq (cFor (cRng1 (c2 gAdd (cC (.int 2)) (cCall 2 F_law_cast (cCons (cVar 0) (cCons (cC (.int 4)) (cNil)))))) (bName 6) (cApp 8 (cCall 4 F_law_a_move (cCons (cVar 0) (cCons (cVar 4) (cCons (cVar 7) (cCons (cVar 1) (cNil)))))))) (cFrz 8 (cApp 5 (cA gLst (cCons (cVar 2) (cCons (cVar 7) (cCons (cA gTuple (cCons (cVar 8) (cNil))) (cNil)))))))))) (cFrz 5 (cSeq (cAsg (cA gTuple (cCons (cComp (cIt (cVar 1)) (bName 2) (cYes) (cCall 2 F_law_pick (cCons (cVar 0) (cCons (cA gLst (cCons (cC (.int 1)) (cCons (cC (.int 0)) (cCons (cC (.int 2)) (cCons (cC (.int 1)) (cNil)))))) (cNil)))) [2]) (cNil))) (bName 3)) (cRet (cA gLst (cCons (cVar 4) (cCons (cCall 2 F_law_subset (cCons (cVar 0) (cCons (cVar 4) (cNil)))) (cCons (cVar 3) (cCons (cVar 5) (cNil)))))))))))
def F_law_any_plain : List D → M D := runF 1 9 b_law_any_plain
theorem ok_law_any_plain {P : Program} {w : World} {K : PySem.W.Frag} {mg : Str → Option Value} {base : Heap} {cl : Cls_} {tk_LETTERS tk_MAX_LETTERS tk_MAX_MODES tk_MAX_MOVES tk_MAX_POINTS : Tok} (T : Txt mg tk_LETTERS tk_MAX_LETTERS tk_MAX_MODES tk_MAX_MOVES tk_MAX_POINTS) (fd : Fd K mg "_law_any_plain" "_law_any_plain" s_law_any_plain ["die"]) (C_law_subset : Cal P w K mg base cl "_law_subset" 2 ["die", "total"] F_law_subset) (C_law_pick : Cal P w K mg base cl "_law_pick" 2 ["die", "items"] F_law_pick) (C_law_cast : Cal P w K mg base cl "_law_cast" 1 ["die", "total"] F_law_cast) (C_law_a_move : Cal P w K mg base cl "_law_a_move" 3 ["die", "total", "points", "names"] F_law_a_move) (C_law_shuffle : Cal P w K mg base cl "_law_shuffle" 2 ["die", "items"] F_law_shuffle) : Cal P w K mg base cl "_law_any_plain" 4 ["die"] F_law_any_plain := by
  refine fd.cal sc_law_any_plain fun f cdv A outer s H E hr => ?_
  have nd := sc_law_any_plain.nd
  have tk : Takes (cxD P w K mg base N_law_any_plain "_law_any_plain" s_law_any_plain f cdv A outer s H E) (fun c d _ H => E c d H) := takes_of rfl rfl rfl rfl
  exact (dss_cons (ds_parV 4 5 rfl nd (de_cal C_law_pick (hr.mono (by decide)) tk (da_cons (de_var 0) (da_cons (de_lst (da_cons de_int (da_cons de_int (da_cons de_int (da_cons de_int da_nil))))) da_nil))) da_nil) (dss_cons (ds_set 1 nd (de_sl (de_cal C_law_shuffle (hr.mono (by decide)) tk (da_cons (de_var 0) (da_cons (de_lst (da_cons de_str (da_cons de_str (da_cons de_str da_nil)))) da_nil))) do_none (do_some (de_cal C_law_pick (hr.mono (by decide)) tk (da_cons (de_var 0) (da_cons (de_lst (da_cons de_int (da_cons de_int (da_cons de_int (da_cons de_int da_nil))))) da_nil)))))) (dss_cons (ds_for (passes_of rfl) rfl (di_seq (de_var 1)) (dg_name (i := 2) nd) (dss_cons (ds_parV 7 8 rfl nd (de_cal C_law_pick (hr.mono (by decide)) tk (da_cons (de_var 0) (da_cons (de_lst (da_cons de_int (da_cons de_int (da_cons de_int (da_cons de_int da_nil))))) da_nil))) da_nil) (dss_cons (ds_for (passes_of rfl) rfl (di_rng1 T.b_range (de_add de_int (de_cal C_law_cast (hr.mono (by decide)) tk (da_cons (de_var 0) (da_cons de_int da_nil))))) (dg_name (i := 6) nd) (dss_one (ds_app 8 (pe_bm PySem.F.plainAttrs_list PySem.F.slot_list_append PySem.F.type_list_append mt_append (pv 8) (pa_cons (de_cal C_law_a_move (hr.mono (by decide)) tk (da_cons (de_var 0) (da_cons (de_var 4) (da_cons (de_var 7) (da_cons (de_var 1) da_nil))))) pa_nil))))) (dss_frz 8 (dss_one (ds_app 5 (pe_bm PySem.F.plainAttrs_list PySem.F.slot_list_append PySem.F.type_list_append mt_append (pv 5) (pa_cons (de_lst (da_cons (de_var 2) (da_cons (de_var 7) (da_cons (de_callTy call_tuple_of cd_tuple T.b_tuple (da_cons (de_var 8) da_nil)) da_nil)))) pa_nil)))))))) (dss_frz 5 (dss_cons (ds_set 3 nd (de_callTy call_tuple_of cd_tuple T.b_tuple (da_cons (de_lc [("name", 2)] rfl nd (di_seq (de_var 1)) (blkOk_by (own := [("name", 2)]) (N := N_law_any_plain) (sc := defScope s_law_any_plain) (by decide +kernel)) (fun _ _ _ _ _ => (dg_name (i := 2) nd)) (fun _ _ _ _ _ => by exact dts_nil) (fun _ _ _ _ _ => by exact (de_cal C_law_pick (hr.mono (by decide)) takes0 (da_cons (de_var 0) (da_cons (de_lst (da_cons de_int (da_cons de_int (da_cons de_int (da_cons de_int da_nil))))) da_nil))))) da_nil))) (dss_one (ds_ret (de_lst (da_cons (de_var 4) (da_cons (de_cal C_law_subset (hr.mono (by decide)) tk (da_cons (de_var 0) (da_cons (de_var 4) da_nil))) (da_cons (de_var 3) (da_cons (de_var 5) da_nil))))))))))))
abbrev s_law_is_step : Stmt := top 35
abbrev N_law_is_step : List Str := ["value", "points", "total"]
theorem sc_law_is_step : FnScope N_law_is_step ["value", "points", "total"] (defScope s_law_is_step) := ⟨rfl, rfl, rfl, by decide +kernel, rfl, by decide +kernel, by decide +kernel⟩
def b_law_is_step : Sm := cSeq (cIfS (cOrB (cNotB (cB (c1 (gIsi "tuple") (cVar 0)))) (cOrB (cB (c2 gLtT (cA gLen (cCons (cVar 0) (cNil))) (cC (.int 3)))) (cNotB (cB (cCall 2 F_law_is_number (cCons (c2 gIx (cVar 0) (cC (.int 1))) (cCons (cVar 1) (cNil)))))))) (cRet (cC (.bl false))) (cNext)) (cSeq (cIfS (cB (c2 gEqN (c2 gIx (cVar 0) (cC (.int 0))) (cC (.str "leave")))) (cRet (cAndV (c2 gEqN (cA gLen (cCons (cVar 0) (cNil))) (cC (.int 3))) (cCall 2 F_law_is_set (cCons (c2 gIx (cVar 0) (cC (.int 2))) (cCons (cVar 2) (cNil)))))) (cNext)) (cSeq (cIfS (cNotB (cB (cCall 2 F_law_is_number (cCons (c2 gIx (cVar 0) (cC (.int 2))) (cCons (cVar 1) (cNil)))))) (cRet (cC (.bl false))) (cNext)) (cSeq (cIfS (cB (c2 gEqN (c2 gIx (cVar 0) (cC (.int 0))) (cC (.str "go")))) (cRet (cAndV (c2 gEqN (cA gLen (cCons (cVar 0) (cNil))) (cC (.int 4))) (cCall 2 F_law_is_pairs (cCons (c2 gIx (cVar 0) (cC (.int 3))) (cCons (cVar 2) (cNil)))))) (cNext)) (cSeq (cIfS (cOrB (cB (c2 gNotInS (c2 gIx (cVar 0) (cC (.int 0))) (cA gTup (cCons (cC (.str "call")) (cCons (cC (.str "post")) (cNil)))))) (cB (c2 gNeE (cA gLen (cCons (cVar 0) (cNil))) (cC (.int 5))))) (cRet (cC (.bl false))) (cNext)) (cRet (cAndV (cCall 1 F_law_is_word (cCons (c2 gIx (cVar 0) (cC (.int 3))) (cNil))) (cCall 2 F_law_is_set (cCons (c2 gIx (cVar 0) (cC (.int 4))) (cCons (cVar 2) (cNil))))))))))
def F_law_is_step : List D → M D := runF 3 3 b_law_is_step
theorem ok_law_is_step {P : Program} {w : World} {K : PySem.W.Frag} {mg : Str → Option Value} {base : Heap} {cl : Cls_} {tk_LETTERS tk_MAX_LETTERS tk_MAX_MODES tk_MAX_MOVES tk_MAX_POINTS : Tok} (T : Txt mg tk_LETTERS tk_MAX_LETTERS tk_MAX_MODES tk_MAX_MOVES tk_MAX_POINTS) (fd : Fd K mg "_law_is_step" "_law_is_step" s_law_is_step ["value", "points", "total"]) (C_law_is_word : Cal P w K mg base cl "_law_is_word" 1 ["value"] F_law_is_word) (C_law_is_set : Cal P w K mg base cl "_law_is_set" 2 ["value", "total"] F_law_is_set) (C_law_is_pairs : Cal P w K mg base cl "_law_is_pairs" 2 ["value", "total"] F_law_is_pairs) (C_law_is_number : Cal P w K mg base cl "_law_is_number" 1 ["value", "total"] F_law_is_number) : Cal P w K mg base cl "_law_is_step" 3 ["value", "points", "total"] F_law_is_step := by
  refine fd.cal sc_law_is_step fun f cdv A outer s H E hr => ?_
  have nd := sc_law_is_step.nd
  have tk : Takes (cxD P w K mg base N_law_is_step "_law_is_step" s_law_is_step f cdv A outer s H E) (fun c d _ H => E c d H) := takes_of rfl rfl rfl rfl
  exact (dss_cons (ds_if (dw_t (dw_or (dt_not (dt_val (de_isi (T := "tuple") (by decide) T.b_isinstance T.b_tuple (de_var 0)))) (dw_or (dt_cmp (op_ltB hr.units) od_ltB (de_callB call_len cd_len T.b_len (da_cons (de_var 0) da_nil)) de_int (nomark _)) (dw_or1 (dt_not (dt_val (de_cal C_law_is_number (hr.mono (by decide)) tk (da_cons (de_ix (de_var 0) de_int) (da_cons (de_var 1) da_nil))))))))) (dss_one (ds_ret de_bl)) dss_nil) (dss_cons (ds_if (dt_cmp (op_eqN hr.units) od_eqN (de_ix (de_var 0) de_int) de_str (nomark _)) (dss_one (ds_ret (de_and (de_cmp (op_eqN hr.units) od_eqN (de_callB call_len cd_len T.b_len (da_cons (de_var 0) da_nil)) de_int (nomark _)) (de_one (de_cal C_law_is_set (hr.mono (by decide)) tk (da_cons (de_ix (de_var 0) de_int) (da_cons (de_var 2) da_nil))))))) dss_nil) (dss_cons (ds_if (dt_not (dt_val (de_cal C_law_is_number (hr.mono (by decide)) tk (da_cons (de_ix (de_var 0) de_int) (da_cons (de_var 1) da_nil))))) (dss_one (ds_ret de_bl)) dss_nil) (dss_cons (ds_if (dt_cmp (op_eqN hr.units) od_eqN (de_ix (de_var 0) de_int) de_str (nomark _)) (dss_one (ds_ret (de_and (de_cmp (op_eqN hr.units) od_eqN (de_callB call_len cd_len T.b_len (da_cons (de_var 0) da_nil)) de_int (nomark _)) (de_one (de_cal C_law_is_pairs (hr.mono (by decide)) tk (da_cons (de_ix (de_var 0) de_int) (da_cons (de_var 2) da_nil))))))) dss_nil) (dss_cons (ds_if (dw_t (dw_or (dt_cmp (op_notInS hr.units) od_notInS (de_ix (de_var 0) de_int) (de_tup (da_cons de_str (da_cons de_str da_nil))) (by rfl)) (dw_or1 (dt_cmp (op_neE hr.units) od_neE (de_callB call_len cd_len T.b_len (da_cons (de_var 0) da_nil)) de_int (nomark _))))) (dss_one (ds_ret de_bl)) dss_nil) (dss_one (ds_ret (de_and (de_cal C_law_is_word (hr.mono (by decide)) tk (da_cons (de_ix (de_var 0) de_int) da_nil)) (de_one (de_cal C_law_is_set (hr.mono (by decide)) tk (da_cons (de_ix (de_var 0) de_int) (da_cons (de_var 2) da_nil))))))))))))
abbrev s_law_is_due : Stmt := top 37
abbrev N_law_is_due : List Str := ["called", "points", "moves", "move"]
theorem sc_law_is_due : FnScope N_law_is_due ["called", "points", "moves"] (defScope s_law_is_due) := ⟨rfl, rfl, rfl, by decide +kernel, rfl, by decide +kernel, by decide +kernel⟩
def b_law_is_due : Sm := cSeq (cIfS (cOrB (cNotB (cB (cCall 1 F_law_is_word (cCons (cVar 0) (cNil))))) (cOrB (cNotB (cB (cCall 2 F_law_is_number (cCons (cVar 1) (cCons (cC (.int 7)) (cNil)))))) (cB (c2 gEqN (cVar 1) (cC (.int 0)))))) (cRet (cC (.bl false))) (cNext)) (cSeq (cIfS (cOrB (cNotB (cB (c1 (gIsi "tuple") (cVar 2)))) (cB (c2 gGt (cA gLen (cCons (cVar 2) (cNil))) (cC (.int 12))))) (cRet (cC (.bl false))) (cNext)) (cRet (c2 gEqN (cComp (cIt (cVar 2)) (bName 3) (cNotB (cB (cCall 3 F_law_is_step (cCons (cVar 3) (cCons (cVar 1) (cCons (cC (.int 5)) (cNil))))))) (cVar 3) [3]) (cA gLst (cNil)))))
def F_law_is_due : List D → M D := runF 3 4 b_law_is_due
theorem ok_law_is_due {P : Program} {w : World} {K : PySem.W.Frag} {mg : Str → Option Value} {base : Heap} {cl : Cls_} {tk_LETTERS tk_MAX_LETTERS tk_MAX_MODES tk_MAX_MOVES tk_MAX_POINTS : Tok} (T : Txt mg tk_LETTERS tk_MAX_LETTERS tk_MAX_MODES tk_MAX_MOVES tk_MAX_POINTS) (fd : Fd K mg "_law_is_due" "_law_is_due" s_law_is_due ["called", "points", "moves"]) (C_law_is_step : Cal P w K mg base cl "_law_is_step" 3 ["value", "points", "total"] F_law_is_step) (C_law_is_word : Cal P w K mg base cl "_law_is_word" 1 ["value"] F_law_is_word) (C_law_is_number : Cal P w K mg base cl "_law_is_number" 1 ["value", "total"] F_law_is_number) : Cal P w K mg base cl "_law_is_due" 4 ["called", "points", "moves"] F_law_is_due := by
  refine fd.cal sc_law_is_due fun f cdv A outer s H E hr => ?_
  have nd := sc_law_is_due.nd
  have tk : Takes (cxD P w K mg base N_law_is_due "_law_is_due" s_law_is_due f cdv A outer s H E) (fun c d _ H => E c d H) := takes_of rfl rfl rfl rfl
  exact (dss_cons (ds_if (dw_t (dw_or (dt_not (dt_val (de_cal C_law_is_word (hr.mono (by decide)) tk (da_cons (de_var 0) da_nil)))) (dw_or (dt_not (dt_val (de_cal C_law_is_number (hr.mono (by decide)) tk (da_cons (de_var 1) (da_cons de_int da_nil))))) (dw_or1 (dt_cmp (op_eqN hr.units) od_eqN (de_var 1) de_int (nomark _)))))) (dss_one (ds_ret de_bl)) dss_nil) (dss_cons (ds_if (dw_t (dw_or (dt_not (dt_val (de_isi (T := "tuple") (by decide) T.b_isinstance T.b_tuple (de_var 2)))) (dw_or1 (dt_cmp op_gt od_gt (de_callB call_len cd_len T.b_len (da_cons (de_var 2) da_nil)) de_int (nomark _))))) (dss_one (ds_ret de_bl)) dss_nil) (dss_one (ds_ret (de_cmp (op_eqN hr.units) od_eqN (de_lc [("move", 3)] rfl nd (di_seq (de_var 2)) (blkOk_by (own := [("move", 3)]) (N := N_law_is_due) (sc := defScope s_law_is_due) (by decide +kernel)) (fun _ _ _ _ _ => (dg_name (i := 3) nd)) (fun _ _ _ _ _ => by exact (dts_one (dt_not (dt_val (de_cal C_law_is_step (hr.mono (by decide)) takes0 (da_cons (de_var 3) (da_cons (de_var 1) (da_cons de_int da_nil)))))))) (fun _ _ _ _ _ => by exact (de_var 3))) (de_lst da_nil) (nomark _))))))
abbrev s_Procedure___eq__ : Stmt := methSt (top 19) 6
abbrev N_Procedure___eq__ : List Str := ["self", "other"]
theorem sc_Procedure___eq__ : FnScope N_Procedure___eq__ ["self", "other"] (defScope s_Procedure___eq__) := ⟨rfl, rfl, rfl, by decide +kernel, rfl, by decide +kernel, by decide +kernel⟩
def b_Procedure___eq__ : Sm := cRet (cAndV (c1 (gIsI tabI_Procedure) (cVar 1)) (cAndV (c2 gEqN (c1 (gGet "own_name" fI_own_name) (cVar 0)) (c1 (gGet "own_name" fI_own_name) (cVar 1))) (cAndV (c2 gEqN (c1 (gGet "own_points" fI_own_points) (cVar 0)) (c1 (gGet "own_points" fI_own_points) (cVar 1))) (c2 gEqN (c1 (gGet "own_moves" fI_own_moves) (cVar 0)) (c1 (gGet "own_moves" fI_own_moves) (cVar 1))))))
def F_Procedure___eq__ : List D → M D := runF 2 2 b_Procedure___eq__
theorem ok_Procedure___eq__ {P : Program} {w : World} {K : PySem.W.Frag} {mg : Str → Option Value} {base : Heap} {cl : Cls_} {tk_LETTERS tk_MAX_LETTERS tk_MAX_MODES tk_MAX_MOVES tk_MAX_POINTS : Tok} {f : Addr} {fdat : FuncData} (T : Txt mg tk_LETTERS tk_MAX_LETTERS tk_MAX_MODES tk_MAX_MOVES tk_MAX_POINTS) (F : Fun K "__eq__" "Procedure.__eq__" s_Procedure___eq__ f fdat) (FI_own_name : FldI K cl "own_name" fI_own_name) (FI_own_points : FldI K cl "own_points" fI_own_points) (FI_own_moves : FldI K cl "own_moves" fI_own_moves) (II_Procedure : IsI K mg cl "Procedure" tabI_Procedure) : FnD P w K mg base cl 1 f fdat ["self", "other"] F_Procedure___eq__ := by
  refine fn_D F sc_Procedure___eq__ fun cdv A outer s H E hr => ?_
  have nd := sc_Procedure___eq__.nd
  have tk : Takes (cxD P w K mg base N_Procedure___eq__ "Procedure.__eq__" s_Procedure___eq__ f cdv A outer s H E) (fun c d _ H => E c d H) := takes_of rfl rfl rfl rfl
  exact (dss_one (ds_ret (de_and (de_isI II_Procedure T.b_isinstance (de_var 1)) (de_and (de_cmp (op_eqN hr.units) od_eqN (de_get FI_own_name (de_var 0)) (de_get FI_own_name (de_var 1)) (nomark _)) (de_and (de_cmp (op_eqN hr.units) od_eqN (de_get FI_own_points (de_var 0)) (de_get FI_own_points (de_var 1)) (nomark _)) (de_one (de_cmp (op_eqN hr.units) od_eqN (de_get FI_own_moves (de_var 0)) (de_get FI_own_moves (de_var 1)) (nomark _))))))))
abbrev s_Procedure_moves : Stmt := methSt (top 19) 4
abbrev N_Procedure_moves : List Str := ["self"]
theorem sc_Procedure_moves : FnScope N_Procedure_moves ["self"] (defScope s_Procedure_moves) := ⟨rfl, rfl, rfl, by decide +kernel, rfl, by decide +kernel, by decide +kernel⟩
def b_Procedure_moves : Sm := cRet (c1 (gGet "own_moves" fI_own_moves) (cVar 0))
def F_Procedure_moves : List D → M D := runF 1 1 b_Procedure_moves
theorem ok_Procedure_moves {P : Program} {w : World} {K : PySem.W.Frag} {mg : Str → Option Value} {base : Heap} {cl : Cls_} {tk_LETTERS tk_MAX_LETTERS tk_MAX_MODES tk_MAX_MOVES tk_MAX_POINTS : Tok} {f : Addr} {fdat : FuncData} (T : Txt mg tk_LETTERS tk_MAX_LETTERS tk_MAX_MODES tk_MAX_MOVES tk_MAX_POINTS) (F : Fun K "moves" "Procedure.moves" s_Procedure_moves f fdat) (FI_own_moves : FldI K cl "own_moves" fI_own_moves) : FnD P w K mg base cl 1 f fdat ["self"] F_Procedure_moves := by
  refine fn_D F sc_Procedure_moves fun cdv A outer s H E hr => ?_
  have nd := sc_Procedure_moves.nd
  have tk : Takes (cxD P w K mg base N_Procedure_moves "Procedure.moves" s_Procedure_moves f cdv A outer s H E) (fun c d _ H => E c d H) := takes_of rfl rfl rfl rfl
  exact (dss_one (ds_ret (de_get FI_own_moves (de_var 0))))
abbrev s_Procedure_points : Stmt := methSt (top 19) 3
abbrev N_Procedure_points : List Str := ["self"]
theorem sc_Procedure_points : FnScope N_Procedure_points ["self"] (defScope s_Procedure_points) := ⟨rfl, rfl, rfl, by decide +kernel, rfl, by decide +kernel, by decide +kernel⟩
def b_Procedure_points : Sm := cRet (c1 (gGet "own_points" fI_own_points) (cVar 0))
def F_Procedure_points : List D → M D := runF 1 1 b_Procedure_points
theorem ok_Procedure_points {P : Program} {w : World} {K : PySem.W.Frag} {mg : Str → Option Value} {base : Heap} {cl : Cls_} {tk_LETTERS tk_MAX_LETTERS tk_MAX_MODES tk_MAX_MOVES tk_MAX_POINTS : Tok} {f : Addr} {fdat : FuncData} (T : Txt mg tk_LETTERS tk_MAX_LETTERS tk_MAX_MODES tk_MAX_MOVES tk_MAX_POINTS) (F : Fun K "points" "Procedure.points" s_Procedure_points f fdat) (FI_own_points : FldI K cl "own_points" fI_own_points) : FnD P w K mg base cl 1 f fdat ["self"] F_Procedure_points := by
  refine fn_D F sc_Procedure_points fun cdv A outer s H E hr => ?_
  have nd := sc_Procedure_points.nd
  have tk : Takes (cxD P w K mg base N_Procedure_points "Procedure.points" s_Procedure_points f cdv A outer s H E) (fun c d _ H => E c d H) := takes_of rfl rfl rfl rfl
  exact (dss_one (ds_ret (de_get FI_own_points (de_var 0))))
abbrev s_Procedure_called : Stmt := methSt (top 19) 2
abbrev N_Procedure_called : List Str := ["self"]
theorem sc_Procedure_called : FnScope N_Procedure_called ["self"] (defScope s_Procedure_called) := ⟨rfl, rfl, rfl, by decide +kernel, rfl, by decide +kernel, by decide +kernel⟩
def b_Procedure_called : Sm := cRet (c1 (gGet "own_name" fI_own_name) (cVar 0))
def F_Procedure_called : List D → M D := runF 1 1 b_Procedure_called
theorem ok_Procedure_called {P : Program} {w : World} {K : PySem.W.Frag} {mg : Str → Option Value} {base : Heap} {cl : Cls_} {tk_LETTERS tk_MAX_LETTERS tk_MAX_MODES tk_MAX_MOVES tk_MAX_POINTS : Tok} {f : Addr} {fdat : FuncData} (T : Txt mg tk_LETTERS tk_MAX_LETTERS tk_MAX_MODES tk_MAX_MOVES tk_MAX_POINTS) (F : Fun K "called" "Procedure.called" s_Procedure_called f fdat) (FI_own_name : FldI K cl "own_name" fI_own_name) : FnD P w K mg base cl 1 f fdat ["self"] F_Procedure_called := by
  refine fn_D F sc_Procedure_called fun cdv A outer s H E hr => ?_
  have nd := sc_Procedure_called.nd
  have tk : Takes (cxD P w K mg base N_Procedure_called "Procedure.called" s_Procedure_called f cdv A outer s H E) (fun c d _ H => E c d H) := takes_of rfl rfl rfl rfl
  exact (dss_one (ds_ret (de_get FI_own_name (de_var 0))))
abbrev s_law_is_as : Stmt := top 38
abbrev N_law_is_as : List Str := ["made", "band"]
theorem sc_law_is_as : FnScope N_law_is_as ["made", "band"] (defScope s_law_is_as) := ⟨rfl, rfl, rfl, by decide +kernel, rfl, by decide +kernel, by decide +kernel⟩
def b_law_is_as : Sm := cRet (c2 (gEqI "Procedure" (cF 2 F_Procedure___eq__)) (cA gReprS (cCons (cA gLst (cCons (c1 (gProp "Procedure" (cF 1 F_Procedure_called)) (cVar 0)) (cCons (c1 (gProp "Procedure" (cF 1 F_Procedure_points)) (cVar 0)) (cCons (c1 (gProp "Procedure" (cF 1 F_Procedure_moves)) (cVar 0)) (cNil))))) (cNil))) (cA gReprS (cCons (cVar 1) (cNil))))
def F_law_is_as : List D → M D := runF 2 2 b_law_is_as
theorem ok_law_is_as {P : Program} {w : World} {K : PySem.W.Frag} {mg : Str → Option Value} {base : Heap} {cl : Cls_} {tk_LETTERS tk_MAX_LETTERS tk_MAX_MODES tk_MAX_MOVES tk_MAX_POINTS : Tok} (T : Txt mg tk_LETTERS tk_MAX_LETTERS tk_MAX_MODES tk_MAX_MOVES tk_MAX_POINTS) (fd : Fd K mg "_law_is_as" "_law_is_as" s_law_is_as ["made", "band"]) (EQ_Procedure : OwnE P w K mg base cl "Procedure" 1 (cF 2 F_Procedure___eq__)) (PR_moves : PropI P w K mg base cl "moves" "Procedure" 1 (cF 1 F_Procedure_moves)) (PR_points : PropI P w K mg base cl "points" "Procedure" 1 (cF 1 F_Procedure_points)) (PR_called : PropI P w K mg base cl "called" "Procedure" 1 (cF 1 F_Procedure_called)) : CalG P w K mg base cl "_law_is_as" 3 ["made", "band"] F_law_is_as := by
  refine fd.calG sc_law_is_as fun f cdv A outer s H E gu hr => ?_
  have nd := sc_law_is_as.nd
  have tk : Takes (cxD P w K mg base N_law_is_as "_law_is_as" s_law_is_as f cdv A outer s H E) (fun c d _ H => E c d H) := takes_of rfl rfl rfl rfl
  exact (dss_one (ds_ret (de_cmp (op_eqI EQ_Procedure (hr.mono (by decide))) od_eqI (de_callB (call_reprS gu hr.units) cd_reprS T.b_repr (da_cons (de_lst (da_cons (de_prop PR_called (hr.mono (by decide)) (de_var 0)) (da_cons (de_prop PR_points (hr.mono (by decide)) (de_var 0)) (da_cons (de_prop PR_moves (hr.mono (by decide)) (de_var 0)) da_nil)))) da_nil)) (de_callB (call_reprS gu hr.units) cd_reprS T.b_repr (da_cons (de_var 1) da_nil)) (nomark _))))
abbrev s_Procedure___init__ : Stmt := methSt (top 19) 0
abbrev N_Procedure___init__ : List Str := ["self", "called", "points", "moves", "move"]
theorem sc_Procedure___init__ : FnScope N_Procedure___init__ ["self", "called", "points", "moves"] (defScope s_Procedure___init__) := ⟨rfl, rfl, rfl, by decide +kernel, rfl, by decide +kernel, by decide +kernel⟩
def b_Procedure___init__ : Sm := cSeq (cIfS (cOrB (cNotB (cB (cCall 1 F_is_name (cCons (cVar 1) (cNil))))) (cOrB (cNotB (cB (cCall 1 F_is_integer (cCons (cVar 2) (cNil))))) (cNotB (cB (cChain gLtT gLe (cC (.int 0)) (cVar 2) (cC (.int (6)))))))) (cRaise "InvalidProgram") (cNext)) (cSeq (cIfS (cOrB (cB (c2 gGt (cA gLen (cCons (cVar 3) (cNil))) (cC (.int (12))))) (cNotB (cB (cA gAll (cCons (cComp (cIt (cVar 3)) (bName 4) (cYes) (cCall 2 F_is_move (cCons (cVar 4) (cCons (cVar 2) (cNil)))) [4]) (cNil)))))) (cRaise "InvalidProgram") (cNext)) (cSeq (cSetF (cVar 1) (cVar 0) "own_name" fI_own_name) (cSeq (cSetF (cVar 2) (cVar 0) "own_points" fI_own_points) (cSetF (cVar 3) (cVar 0) "own_moves" fI_own_moves))))
def F_Procedure___init__ : List D → M D := runF 4 5 b_Procedure___init__
theorem ok_Procedure___init__ {P : Program} {w : World} {K : PySem.W.Frag} {mg : Str → Option Value} {base : Heap} {cl : Cls_} {tk_LETTERS tk_MAX_LETTERS tk_MAX_MODES tk_MAX_MOVES tk_MAX_POINTS : Tok} {f : Addr} {kV doc pm cdv ct oc : Value} {an od : Option Addr} {osl : Array (Option Value)} (T : Txt mg tk_LETTERS tk_MAX_LETTERS tk_MAX_MODES tk_MAX_MOVES tk_MAX_POINTS) (lk : K.lookup f = some ⟨oc, od, .func (PySem.W.fnOf "__init__" "Procedure.__init__" (defArgs s_Procedure___init__) (defBody s_Procedure___init__) (defScope s_Procedure___init__) .none kV doc pm an cdv ct), osl⟩) (hcd : PySem.W.codeIn K cdv "Procedure.__init__" = true) {e_InvalidProgram : Addr} (V_InvalidProgram : ExV K mg cl "InvalidProgram" e_InvalidProgram) (FI_own_moves : FldI K cl "own_moves" fI_own_moves) (FI_own_points : FldI K cl "own_points" fI_own_points) (FI_own_name : FldI K cl "own_name" fI_own_name) (C_is_move : Cal P w K mg base cl "is_move" 4 ["value", "points"] F_is_move) (C_is_name : Cal P w K mg base cl "is_name" 1 ["value"] F_is_name) (C_is_integer : Cal P w K mg base cl "is_integer" 1 ["value"] F_is_integer) : FnN P w K mg base cl 5 f (starF 3 F_Procedure___init__) := by
  refine fn_Dstar (N := N_Procedure___init__) (ps := ["self", "called", "points"]) (pv := "moves") lk hcd sc_Procedure___init__ (fun us rest hl => match us, hl, rest with | [_, _, _], _, [] => rfl | [_, _, _], _, _ :: _ => rfl) fun A outer s H E hr => ?_
  have nd := sc_Procedure___init__.nd
  have tk : Takes (cxD P w K mg base N_Procedure___init__ "Procedure.__init__" s_Procedure___init__ f cdv A outer s H E) (fun c d _ H => E c d H) := takes_of rfl rfl rfl rfl
  exact (dss_cons (ds_if (dw_t (dw_or (dt_not (dt_val (de_cal C_is_name (hr.mono (by decide)) tk (da_cons (de_var 1) da_nil)))) (dw_or (dt_not (dt_val (de_cal C_is_integer (hr.mono (by decide)) tk (da_cons (de_var 2) da_nil)))) (dw_or1 (dt_not (dt_chain (op_ltB hr.units) op_leA od_ltB od_le de_int (de_var 2) (de_gint T.g_MAX_POINTS))))))) (dss_one (ds_raise V_InvalidProgram rfl tk)) dss_nil) (dss_cons (ds_if (dw_t (dw_or (dt_cmp op_gt od_gt (de_callB call_len cd_len T.b_len (da_cons (de_var 3) da_nil)) (de_gint T.g_MAX_MOVES) (nomark _)) (dw_or1 (dt_not (dt_val (de_callB (cr_all rfl) cd_all T.b_all (da_cons (de_lc [("move", 4)] rfl nd (di_seq (de_var 3)) (blkOk_by (own := [("move", 4)]) (N := N_Procedure___init__) (sc := defScope s_Procedure___init__) (by decide +kernel)) (fun _ _ _ _ _ => (dg_name (i := 4) nd)) (fun _ _ _ _ _ => by exact dts_nil) (fun _ _ _ _ _ => by exact (de_cal C_is_move (hr.mono (by decide)) takes0 (da_cons (de_var 4) (da_cons (de_var 2) da_nil))))) da_nil))))))) (dss_one (ds_raise V_InvalidProgram rfl tk)) dss_nil) (dss_cons (ds_setF FI_own_name (de_var 0) (de_var 1)) (dss_cons (ds_setF FI_own_points (de_var 0) (de_var 2)) (dss_one (ds_setF FI_own_moves (de_var 0) (de_var 3)))))))
abbrev s_Procedure_of : Stmt := methSt (top 19) 1
abbrev N_Procedure_of : List Str := ["cls", "called", "points", "moves"]
theorem sc_Procedure_of : FnScope N_Procedure_of ["cls", "called", "points", "moves"] (defScope s_Procedure_of) := ⟨rfl, rfl, rfl, by decide +kernel, rfl, by decide +kernel, by decide +kernel⟩
def b_Procedure_of : Sm := cSeq (cIfS (cNotB (cB (c1 (gIsi "tuple") (cVar 3)))) (cRaise "InvalidProgram") (cNext)) (cRet (cMkV "Procedure" (starF 3 F_Procedure___init__) 0 (cCons (cVar 1) (cCons (cVar 2) (cStar (cVar 3) (cNil))))))
def F_Procedure_of : List D → M D := runF 4 4 b_Procedure_of
theorem ok_Procedure_of {P : Program} {w : World} {K : PySem.W.Frag} {mg : Str → Option Value} {base : Heap} {cl : Cls_} {tk_LETTERS tk_MAX_LETTERS tk_MAX_MODES tk_MAX_MOVES tk_MAX_POINTS : Tok} {f : Addr} {fdat : FuncData} (T : Txt mg tk_LETTERS tk_MAX_LETTERS tk_MAX_MODES tk_MAX_MOVES tk_MAX_POINTS) (F : Fun K "of" "Procedure.of" s_Procedure_of f fdat) {e_InvalidProgram : Addr} (V_InvalidProgram : ExV K mg cl "InvalidProgram" e_InvalidProgram) (MK_Procedure : MkI P w K mg base cl "Procedure" 5 (starF 3 F_Procedure___init__)) : FnD P w K mg base cl 7 f fdat ["cls", "called", "points", "moves"] F_Procedure_of := by
  refine fn_D F sc_Procedure_of fun cdv A outer s H E hr => ?_
  have nd := sc_Procedure_of.nd
  have tk : Takes (cxD P w K mg base N_Procedure_of "Procedure.of" s_Procedure_of f cdv A outer s H E) (fun c d _ H => E c d H) := takes_of rfl rfl rfl rfl
  exact (dss_cons (ds_if (dt_not (dt_val (de_isi (T := "tuple") (by decide) T.b_isinstance T.b_tuple (de_var 3)))) (dss_one (ds_raise V_InvalidProgram rfl tk)) dss_nil) (dss_one (ds_ret (de_mkV MK_Procedure (hr.mono (by decide)) tk (de_var 0) (da_cons (de_var 1) (da_cons (de_var 2) (da_star (de_var 3) da_nil)))))))
abbrev s_Procedure___len__ : Stmt := methSt (top 19) 5
abbrev N_Procedure___len__ : List Str := ["self"]
theorem sc_Procedure___len__ : FnScope N_Procedure___len__ ["self"] (defScope s_Procedure___len__) := ⟨rfl, rfl, rfl, by decide +kernel, rfl, by decide +kernel, by decide +kernel⟩
def b_Procedure___len__ : Sm := cRet (cA gLen (cCons (c1 (gGet "own_moves" fI_own_moves) (cVar 0)) (cNil)))
def F_Procedure___len__ : List D → M D := runF 1 1 b_Procedure___len__
theorem ok_Procedure___len__ {P : Program} {w : World} {K : PySem.W.Frag} {mg : Str → Option Value} {base : Heap} {cl : Cls_} {tk_LETTERS tk_MAX_LETTERS tk_MAX_MODES tk_MAX_MOVES tk_MAX_POINTS : Tok} {f : Addr} {fdat : FuncData} (T : Txt mg tk_LETTERS tk_MAX_LETTERS tk_MAX_MODES tk_MAX_MOVES tk_MAX_POINTS) (F : Fun K "__len__" "Procedure.__len__" s_Procedure___len__ f fdat) (FI_own_moves : FldI K cl "own_moves" fI_own_moves) : FnD P w K mg base cl 1 f fdat ["self"] F_Procedure___len__ := by
  refine fn_D F sc_Procedure___len__ fun cdv A outer s H E hr => ?_
  have nd := sc_Procedure___len__.nd
  have tk : Takes (cxD P w K mg base N_Procedure___len__ "Procedure.__len__" s_Procedure___len__ f cdv A outer s H E) (fun c d _ H => E c d H) := takes_of rfl rfl rfl rfl
  exact (dss_one (ds_ret (de_callB call_len cd_len T.b_len (da_cons (de_get FI_own_moves (de_var 0)) da_nil))))
abbrev s_Procedure___str__ : Stmt := methSt (top 19) 7
abbrev N_Procedure___str__ : List Str := ["self"]
theorem sc_Procedure___str__ : FnScope N_Procedure___str__ ["self"] (defScope s_Procedure___str__) := ⟨rfl, rfl, rfl, by decide +kernel, rfl, by decide +kernel, by decide +kernel⟩
def b_Procedure___str__ : Sm := cRet (cJs [cC (.str "procedure "), c1 gFmt (c1 (gGet "own_name" fI_own_name) (cVar 0)), cC (.str ", "), c1 gFmt (c1 (gGet "own_points" fI_own_points) (cVar 0)), cC (.str " points, "), c1 gFmt (cA gLen (cCons (c1 (gGet "own_moves" fI_own_moves) (cVar 0)) (cNil))), cC (.str " moves")] Str.empty)
def F_Procedure___str__ : List D → M D := runF 1 1 b_Procedure___str__
theorem ok_Procedure___str__ {P : Program} {w : World} {K : PySem.W.Frag} {mg : Str → Option Value} {base : Heap} {cl : Cls_} {tk_LETTERS tk_MAX_LETTERS tk_MAX_MODES tk_MAX_MOVES tk_MAX_POINTS : Tok} {f : Addr} {fdat : FuncData} (T : Txt mg tk_LETTERS tk_MAX_LETTERS tk_MAX_MODES tk_MAX_MOVES tk_MAX_POINTS) (F : Fun K "__str__" "Procedure.__str__" s_Procedure___str__ f fdat) (FI_own_name : FldI K cl "own_name" fI_own_name) (FI_own_points : FldI K cl "own_points" fI_own_points) (FI_own_moves : FldI K cl "own_moves" fI_own_moves) : FnD P w K mg base cl 1 f fdat ["self"] F_Procedure___str__ := by
  refine fn_D F sc_Procedure___str__ fun cdv A outer s H E hr => ?_
  have nd := sc_Procedure___str__.nd
  have tk : Takes (cxD P w K mg base N_Procedure___str__ "Procedure.__str__" s_Procedure___str__ f cdv A outer s H E) (fun c d _ H => E c d H) := takes_of rfl rfl rfl rfl
  exact (dss_one (ds_ret (de_joined (.cons de_str (.cons (de_fmt (de_get FI_own_name (de_var 0))) (.cons de_str (.cons (de_fmt (de_get FI_own_points (de_var 0))) (.cons de_str (.cons (de_fmt (de_callB call_len cd_len T.b_len (da_cons (de_get FI_own_moves (de_var 0)) da_nil))) (.cons de_str .nil))))))))))
abbrev s_law_right : Stmt := top 39
abbrev N_law_right : List Str := ["die", "one", "told", "text", "turn", "name", "points", "moves", "bent", "some", "due", "made", "is_same", "odd", "at", "called", "size", "other"]
theorem sc_law_right : FnScope N_law_right ["die"] (defScope s_law_right) := ⟨rfl, rfl, rfl, by decide +kernel, rfl, by decide +kernel, by decide +kernel⟩
def b_law_right : Sm := cSeq (cAsg (cCall 2 F_law_pick (cCons (cVar 0) (cCons (c2 gIx (cCall 1 F_law_any_plain (cCons (cVar 0) (cNil))) (cC (.int 3))) (cNil)))) (bTup [bName 5, bName 6, bName 7])) (cSeq (cAsg (cA (fun ds => (cF 4 F_Procedure_of) (.cls "Procedure" :: ds)) (cCons (cVar 5) (cCons (cVar 6) (cCons (cVar 7) (cNil))))) (bName 1)) (cSeq (cAsg (cA gLst (cCons (c1 (gProp "Procedure" (cF 1 F_Procedure_called)) (cVar 1)) (cCons (c1 (gProp "Procedure" (cF 1 F_Procedure_points)) (cVar 1)) (cCons (c1 (gProp "Procedure" (cF 1 F_Procedure_moves)) (cVar 1)) (cCons (cA (gLenI "Procedure" (cF 1 F_Procedure___len__)) (cCons (cVar 1) (cNil))) (cCons (c2 (gEqI "Procedure" (cF 2 F_Procedure___eq__)) (cVar 1) (cA (fun ds => (cF 4 F_Procedure_of) (.cls "Procedure" :: ds)) (cCons (cVar 5) (cCons (cVar 6) (cCons (cVar 7) (cNil)))))) (cNil))))))) (bName 2)) (cSeq (cIfS (cB (c2 (gNeJ "Procedure" (cF 2 F_Procedure___eq__)) (cA gReprS (cCons (cVar 2) (cNil))) (cA gReprS (cCons (cA gLst (cCons (cVar 5) (cCons (cVar 6) (cCons (cVar 7) (cCons (cA (gLenI "Procedure" (cF 1 F_Procedure___len__)) (cCons (cVar 7) (cNil))) (cCons (cC (.bl true)) (cNil))))))) (cNil))))) (cRet (cC (.bl false))) (cNext)) (cSeq (cAsg (c2 gAdd (c2 gAdd (c2 gAdd (c2 gAdd (cC (.str "procedure ")) (cVar 5)) (cC (.str ", "))) (cA (gStrI "Procedure" (cF 1 F_Procedure___str__)) (cCons (cVar 6) (cNil)))) (cC (.str " points, "))) (bName 3)) (cSeq (cIfS (cB (c2 (gNeJ "Procedure" (cF 2 F_Procedure___eq__)) (cA (gStrI "Procedure" (cF 1 F_Procedure___str__)) (cCons (cVar 1) (cNil))) (c2 gAdd (c2 gAdd (cVar 3) (cA (gStrI "Procedure" (cF 1 F_Procedure___str__)) (cCons (cA (gLenI "Procedure" (cF 1 F_Procedure___len__)) (cCons (cVar 7) (cNil))) (cNil)))) (cC (.str " moves"))))) (cRet (cC (.bl false))) (cNext)) (cSeq (cFor (cRng1 (cC (.int 8))) (bName 4) (cSeq (cPar 13 14 (cCons (cCall 1 F_law_odd_one (cCons (cVar 0) (cNil))) (cCons (cCall 2 F_law_cast (cCons (cVar 0) (cCons (cA (gLenI "Procedure" (cF 1 F_Procedure___len__)) (cCons (cVar 7) (cNil))) (cNil)))) (cNil)))) (cSeq (cAsg (c2 gAdd (c2 gAdd (cSl (cVar 7) (cNoP) (cPart (cVar 14))) (cA gTup (cCons (cCall 2 F_law_bent_move (cCons (cVar 0) (cCons (c2 gIx (cVar 7) (cVar 14)) (cNil)))) (cNil)))) (cSl (cVar 7) (cPart (c2 gAdd (cVar 14) (cC (.int 1)))) (cNoP))) (bName 8)) (cSeq (cAsg (c2 gAdd (c2 gMulA (cA gLst (cCons (cA gLst (cCons (cVar 5) (cCons (cVar 6) (cCons (cVar 8) (cNil))))) (cNil))) (cC (.int 5))) (cA gLst (cCons (cA gLst (cCons (cVar 13) (cCons (cVar 6) (cCons (cVar 7) (cNil))))) (cCons (cA gLst (cCons (cVar 5) (cCons (cVar 13) (cCons (cVar 7) (cNil))))) (cNil))))) (bName 9)) (cSeq (cAsg (c2 gAdd (cVar 9) (cA gLst (cCons (cA gLst (cCons (cVar 5) (cCons (cVar 6) (cCons (cCall 3 F_law_bent_tuple (cCons (cVar 0) (cCons (cVar 7) (cCons (cVar 13) (cNil))))) (cNil))))) (cCons (cA gLst (cCons (cVar 5) (cCons (cVar 6) (cCons (c2 gMulA (cVar 7) (cCall 2 F_law_cast (cCons (cVar 0) (cCons (cC (.int 9)) (cNil))))) (cNil))))) (cNil))))) (bName 9)) (cSeq (cAsg (cCall 2 F_law_pick (cCons (cVar 0) (cCons (cVar 9) (cNil)))) (bTup [bName 15, bName 16, bName 17])) (cSeq (cAsg (cCall 3 F_law_is_due (cCons (cVar 15) (cCons (cVar 16) (cCons (cVar 17) (cNil))))) (bName 10)) (cSeq (cAsg (cMetN "InvalidProgram" (cA (fun ds => (cF 4 F_Procedure_of) (.cls "Procedure" :: ds)) (cCons (cVar 15) (cCons (cVar 16) (cCons (cVar 17) (cNil)))))) (bName 11)) (cSeq (cIfS (cB (c2 (gNeJ "Procedure" (cF 2 F_Procedure___eq__)) (c2 gNotN (cVar 11) (cC .non)) (cVar 10))) (cRet (cC (.bl false))) (cNext)) (cSeq (cIfS (cAndB (cB (cVar 10)) (cNotB (cB (cCall 2 F_law_is_as (cCons (cVar 11) (cCons (cA gLst (cCons (cVar 15) (cCons (cVar 16) (cCons (cVar 17) (cNil))))) (cNil))))))) (cRet (cC (.bl false))) (cNext)) (cSeq (cAsg (c2 (gEqI "Procedure" (cF 2 F_Procedure___eq__)) (cA gLst (cCons (cVar 15) (cCons (cVar 16) (cCons (cVar 17) (cNil))))) (cA gLst (cCons (cVar 5) (cCons (cVar 6) (cCons (cVar 7) (cNil)))))) (bName 12)) (cIfS (cAndB (cB (cVar 10)) (cB (c2 (gNeJ "Procedure" (cF 2 F_Procedure___eq__)) (c2 (gEqI "Procedure" (cF 2 F_Procedure___eq__)) (cVar 11) (cVar 1)) (cVar 12)))) (cRet (cC (.bl false))) (cNext))))))))))))) (cRet (cAndV (c1 gNot (c2 (gEqI "Procedure" (cF 2 F_Procedure___eq__)) (cVar 1) (cC .non))) (cAndV (c2 (gNeJ "Procedure" (cF 2 F_Procedure___eq__)) (cVar 1) (cVar 5)) (c2 (gNeJ "Procedure" (cF 2 F_Procedure___eq__)) (cVar 1) (cVar 7)))))))))))
def F_law_right : List D → M D := runF 1 18 b_law_right
abbrev q_law_right : Str := (envOfC "_law_right" (defScope s_law_right) 0 0 .none).qual ++ "<lambda>"
theorem ok_law_right {P : Program} {w : World} {K : PySem.W.Frag} {mg : Str → Option Value} {base : Heap} {cl : Cls_} {tk_LETTERS tk_MAX_LETTERS tk_MAX_MODES tk_MAX_MOVES tk_MAX_POINTS : Tok} {c_ P_ : Addr} (T : Txt mg tk_LETTERS tk_MAX_LETTERS tk_MAX_MODES tk_MAX_MOVES tk_MAX_POINTS) (fd : FdC K mg "_law_right" "_law_right" s_law_right ["die"] c_) {e_InvalidProgram : Addr} (V_InvalidProgram : ExV K mg cl "InvalidProgram" e_InvalidProgram) (M_law_met : ∀ X : Cx, X.K = K → X.mg = mg → MetN X "_law_met" e_InvalidProgram) (TB : LamX.TabB base mg c_ P_) (hmT : (P_, q_law_right) ∈ cl.T) (hu : ∀ p ∈ cl.T, p.1 = P_ → p.2 = q_law_right) (EQ_Procedure : OwnE P w K mg base cl "Procedure" 1 (cF 2 F_Procedure___eq__)) (CM_of : CMetI P w K mg base cl "of" "Procedure" 7 (cF 4 F_Procedure_of)) (LN_Procedure : OwnM P w K mg base cl "__len__" "Procedure" 1 (cF 1 F_Procedure___len__)) (ST_Procedure : OwnM P w K mg base cl "__str__" "Procedure" 1 (cF 1 F_Procedure___str__)) (PR_moves : PropI P w K mg base cl "moves" "Procedure" 1 (cF 1 F_Procedure_moves)) (PR_points : PropI P w K mg base cl "points" "Procedure" 1 (cF 1 F_Procedure_points)) (PR_called : PropI P w K mg base cl "called" "Procedure" 1 (cF 1 F_Procedure_called)) (C_law_is_as : CalG P w K mg base cl "_law_is_as" 3 ["made", "band"] F_law_is_as) (C_law_is_due : Cal P w K mg base cl "_law_is_due" 4 ["called", "points", "moves"] F_law_is_due) (C_law_pick : Cal P w K mg base cl "_law_pick" 2 ["die", "items"] F_law_pick) (C_law_cast : Cal P w K mg base cl "_law_cast" 1 ["die", "total"] F_law_cast) (C_law_bent_tuple : Cal P w K mg base cl "_law_bent_tuple" 3 ["die", "items", "odd"] F_law_bent_tuple) (C_law_bent_move : Cal P w K mg base cl "_law_bent_move" 4 ["die", "move"] F_law_bent_move) (C_law_odd_one : Cal P w K mg base cl "_law_odd_one" 3 ["die"] F_law_odd_one) (C_law_any_plain : Cal P w K mg base cl "_law_any_plain" 4 ["die"] F_law_any_plain) : CalG P w K mg base cl "_law_right" 10 ["die"] F_law_right := by
  refine fd.calG sc_law_right fun f A outer s H E gu hr => ?_
  have nd := sc_law_right.nd
  have tk : Takes (cxD P w K mg base N_law_right "_law_right" s_law_right f (.ref c_) A outer s H E) (fun c d _ H => E c d H) := takes_of rfl rfl rfl rfl
  exact (dss_cons (ds_asg (de_cal C_law_pick (hr.mono (by decide)) tk (da_cons (de_var 0) (da_cons (de_ix (de_cal C_law_any_plain (hr.mono (by decide)) tk (da_cons (de_var 0) da_nil)) de_int) da_nil))) (dg_tup rfl (dgs_cons (dg_name (i := 5) nd) (dgs_cons (dg_name (i := 6) nd) (dgs_cons (dg_name (i := 7) nd) dgs_nil))))) (dss_cons (ds_set 1 nd (de_cmeth (x := "Procedure") CM_of (hr.mono (by decide)) tk (da_cons (de_var 5) (da_cons (de_var 6) (da_cons (de_var 7) da_nil))))) (dss_cons (ds_set 2 nd (de_lst (da_cons (de_prop PR_called (hr.mono (by decide)) (de_var 1)) (da_cons (de_prop PR_points (hr.mono (by decide)) (de_var 1)) (da_cons (de_prop PR_moves (hr.mono (by decide)) (de_var 1)) (da_cons (de_callB (call_lenI LN_Procedure (hr.mono (by decide))) cd_lenI T.b_len (da_cons (de_var 1) da_nil)) (da_cons (de_cmp (op_eqI EQ_Procedure (hr.mono (by decide))) od_eqI (de_var 1) (de_cmeth (x := "Procedure") CM_of (hr.mono (by decide)) tk (da_cons (de_var 5) (da_cons (de_var 6) (da_cons (de_var 7) da_nil)))) (nomark _)) da_nil))))))) (dss_cons (ds_if (dt_cmp (op_neJ EQ_Procedure (hr.mono (by decide))) od_neJ (de_callB (call_reprS gu hr.units) cd_reprS T.b_repr (da_cons (de_var 2) da_nil)) (de_callB (call_reprS gu hr.units) cd_reprS T.b_repr (da_cons (de_lst (da_cons (de_var 5) (da_cons (de_var 6) (da_cons (de_var 7) (da_cons (de_callB (call_lenI LN_Procedure (hr.mono (by decide))) cd_lenI T.b_len (da_cons (de_var 7) da_nil)) (da_cons de_bl da_nil)))))) da_nil)) (nomark _)) (dss_one (ds_ret de_bl)) dss_nil) (dss_cons (ds_set 3 nd (de_add (de_add (de_add (de_add de_str (de_var 5)) de_str) (de_callTy (call_strI ST_Procedure (hr.mono (by decide))) cd_strI T.b_str (da_cons (de_var 6) da_nil))) de_str)) (dss_cons (ds_if (dt_cmp (op_neJ EQ_Procedure (hr.mono (by decide))) od_neJ (de_callTy (call_strI ST_Procedure (hr.mono (by decide))) cd_strI T.b_str (da_cons (de_var 1) da_nil)) (de_add (de_add (de_var 3) (de_callTy (call_strI ST_Procedure (hr.mono (by decide))) cd_strI T.b_str (da_cons (de_callB (call_lenI LN_Procedure (hr.mono (by decide))) cd_lenI T.b_len (da_cons (de_var 7) da_nil)) da_nil))) de_str) (nomark _)) (dss_one (ds_ret de_bl)) dss_nil) (dss_cons (ds_for (passes_of rfl) rfl (di_rng1 T.b_range de_int) (dg_name (i := 4) nd) (dss_cons (ds_par 13 14 rfl nd (da_cons (de_cal C_law_odd_one (hr.mono (by decide)) tk (da_cons (de_var 0) da_nil)) (da_cons (de_cal C_law_cast (hr.mono (by decide)) tk (da_cons (de_var 0) (da_cons (de_callB (call_lenI LN_Procedure (hr.mono (by decide))) cd_lenI T.b_len (da_cons (de_var 7) da_nil)) da_nil))) da_nil))) (dss_cons (ds_set 8 nd (de_add (de_add (de_sl (de_var 7) do_none (do_some (de_var 14))) (de_tup (da_cons (de_cal C_law_bent_move (hr.mono (by decide)) tk (da_cons (de_var 0) (da_cons (de_ix (de_var 7) (de_var 14)) da_nil))) da_nil))) (de_sl (de_var 7) (do_some (de_add (de_var 14) de_int)) do_none))) (dss_cons (ds_set 9 nd (de_add (de_bin op_mulB od_mulB (de_lst (da_cons (de_lst (da_cons (de_var 5) (da_cons (de_var 6) (da_cons (de_var 8) da_nil)))) da_nil)) de_int) (de_lst (da_cons (de_lst (da_cons (de_var 13) (da_cons (de_var 6) (da_cons (de_var 7) da_nil)))) (da_cons (de_lst (da_cons (de_var 5) (da_cons (de_var 13) (da_cons (de_var 7) da_nil)))) da_nil))))) (dss_cons (ds_set 9 nd (de_add (de_var 9) (de_lst (da_cons (de_lst (da_cons (de_var 5) (da_cons (de_var 6) (da_cons (de_cal C_law_bent_tuple (hr.mono (by decide)) tk (da_cons (de_var 0) (da_cons (de_var 7) (da_cons (de_var 13) da_nil)))) da_nil)))) (da_cons (de_lst (da_cons (de_var 5) (da_cons (de_var 6) (da_cons (de_bin op_mulB od_mulB (de_var 7) (de_cal C_law_cast (hr.mono (by decide)) tk (da_cons (de_var 0) (da_cons de_int da_nil)))) da_nil)))) da_nil))))) (dss_cons (ds_asg (de_cal C_law_pick (hr.mono (by decide)) tk (da_cons (de_var 0) (da_cons (de_var 9) da_nil))) (dg_tup rfl (dgs_cons (dg_name (i := 15) nd) (dgs_cons (dg_name (i := 16) nd) (dgs_cons (dg_name (i := 17) nd) dgs_nil))))) (dss_cons (ds_set 10 nd (de_cal C_law_is_due (hr.mono (by decide)) tk (da_cons (de_var 15) (da_cons (de_var 16) (da_cons (de_var 17) da_nil))))) (dss_cons (ds_set 11 nd (de_metN (k := 7) (M_law_met _ rfl rfl) V_InvalidProgram.c TB rfl hmT hu (hr.mono (by decide)) (LamX.lamS_by (sc := defScope s_law_right) (by decide +kernel)) (fun A outer s H E f c' hr => by exact (de_cmeth (x := "Procedure") CM_of (hr.mono (by decide)) (takes_of rfl rfl rfl rfl) (da_cons (de_var 15) (da_cons (de_var 16) (da_cons (de_var 17) da_nil))))))) (dss_cons (ds_if (dt_cmp (op_neJ EQ_Procedure (hr.mono (by decide))) od_neJ (de_cmp op_notN od_notN (de_var 11) de_non (nomark _)) (de_var 10) (nomark _)) (dss_one (ds_ret de_bl)) dss_nil) (dss_cons (ds_if (dw_t (dw_and (dt_val (de_var 10)) (dw_and1 (dt_not (dt_val (de_calG C_law_is_as gu (hr.mono (by decide)) tk (da_cons (de_var 11) (da_cons (de_lst (da_cons (de_var 15) (da_cons (de_var 16) (da_cons (de_var 17) da_nil)))) da_nil)))))))) (dss_one (ds_ret de_bl)) dss_nil) (dss_cons (ds_set 12 nd (de_cmp (op_eqI EQ_Procedure (hr.mono (by decide))) od_eqI (de_lst (da_cons (de_var 15) (da_cons (de_var 16) (da_cons (de_var 17) da_nil)))) (de_lst (da_cons (de_var 5) (da_cons (de_var 6) (da_cons (de_var 7) da_nil)))) (nomark _))) (dss_one (ds_if (dw_t (dw_and (dt_val (de_var 10)) (dw_and1 (dt_cmp (op_neJ EQ_Procedure (hr.mono (by decide))) od_neJ (de_cmp (op_eqI EQ_Procedure (hr.mono (by decide))) od_eqI (de_var 11) (de_var 1) (nomark _)) (de_var 12) (nomark _))))) (dss_one (ds_ret de_bl)) dss_nil))))))))))))) (dss_one (ds_ret (de_and (de_not (de_cmp (op_eqI EQ_Procedure (hr.mono (by decide))) od_eqI (de_var 1) de_non (nomark _))) (de_and (de_cmp (op_neJ EQ_Procedure (hr.mono (by decide))) od_neJ (de_var 1) (de_var 5) (nomark _)) (de_one (de_cmp (op_neJ EQ_Procedure (hr.mono (by decide))) od_neJ (de_var 1) (de_var 7) (nomark _))))))))))))))
abbrev s_law : Stmt := top 40
abbrev N_law : List Str := ["script", "at", "wide", "told", "some", "move"]
theorem sc_law : FnScope N_law ["script"] (defScope s_law) := ⟨rfl, rfl, rfl, by decide +kernel, rfl, by decide +kernel, by decide +kernel⟩
def b_law : Sm := cSeq (cFor (cRng1 (cA gMax2 (cCons (cC (.int 1)) (cCons (cA gMin2 (cCons (cC (.int 8)) (cCons (cA (gLenI "Procedure" (cF 1 F_Procedure___len__)) (cCons (cVar 0) (cNil))) (cNil)))) (cNil))))) (bName 1) (cIfS (cNotB (cB (cCall 1 F_law_right (cCons (cCall 2 F_law_numbers (cCons (cVar 0) (cCons (cVar 1) (cNil)))) (cNil))))) (cRet (cC (.bl false))) (cNext))) (cSeq (cAsg (c2 gMulA (cA gTup (cCons (cA gTup (cCons (cC (.str "go")) (cCons (cC (.int 0)) (cCons (cC (.int 5)) (cCons (cA gTuple (cCons (cComp (cRng1 (cC (.int 25))) (bName 1) (cYes) (cA gTup (cCons (c2 gFdiv (cVar 1) (cC (.int 5))) (cCons (c2 gMod (cVar 1) (cC (.int 5))) (cNil)))) [1]) (cNil))) (cNil)))))) (cNil))) (cC (.int 12))) (bName 2)) (cSeq (cSetOwn 3 (cCons (c2 gNotN (cMetN "InvalidProgram" (cA (fun ds => (cF 4 F_Procedure_of) (.cls "Procedure" :: ds)) (cCons (cC (.str "p")) (cCons (cC (.int 6)) (cCons (cVar 2) (cNil)))))) (cC .non)) (cNil))) (cSeq (cApp 3 (c2 gIsN (cMetN "InvalidProgram" (cA (fun ds => (cF 4 F_Procedure_of) (.cls "Procedure" :: ds)) (cCons (cC (.str "p")) (cCons (cC (.int 6)) (cCons (c2 gAdd (cVar 2) (cSl (cVar 2) (cNoP) (cPart (cC (.int 1))))) (cNil)))))) (cC .non))) (cSeq (cApp 3 (c2 gIsN (cMetN "InvalidProgram" (cA (fun ds => (cF 4 F_Procedure_of) (.cls "Procedure" :: ds)) (cCons (cC (.str "p")) (cCons (cC (.int 7)) (cCons (cA gTup (cNil)) (cNil)))))) (cC .non))) (cSeq (cApp 3 (c2 (gEqI "Procedure" (cF 2 F_Procedure___eq__)) (cMetN "InvalidProgram" (cA (gMake "Procedure" (starF 3 F_Procedure___init__)) (cCons (cC (.str "p")) (cCons (cC (.int 1)) (cNil))))) (cA (fun ds => (cF 4 F_Procedure_of) (.cls "Procedure" :: ds)) (cCons (cC (.str "p")) (cCons (cC (.int 1)) (cCons (cA gTup (cNil)) (cNil))))))) (cSeq (cApp 3 (c2 gNotN (cMetN "InvalidProgram" (cA (gMake "Procedure" (starF 3 F_Procedure___init__)) (cCons (cC (.str "p")) (cCons (cC (.int 1)) (cCons (cA gTup (cCons (cC (.str "leave")) (cCons (cC (.int 0)) (cCons (cA gTup (cCons (cC (.int 4)) (cNil))) (cNil))))) (cNil)))))) (cC .non))) (cSeq (cApp 3 (c2 gIsN (cMetN "InvalidProgram" (cA (gMake "Procedure" (starF 3 F_Procedure___init__)) (cCons (cC (.str "p")) (cCons (cC (.int 1)) (cCons (cA gTup (cCons (cC (.str "leave")) (cCons (cC (.int 0)) (cCons (cA gTup (cCons (cC (.int 5)) (cNil))) (cNil))))) (cNil)))))) (cC .non))) (cSeq (cAsg (cA gLst (cCons (cA gTup (cCons (cC (.str "go")) (cCons (cC (.int 0)) (cCons (cC (.int 0)) (cCons (cA gTup (cCons (cA gTup (cCons (cC (.int 0)) (cCons (cC (.int 0)) (cNil)))) (cCons (cA gTup (cCons (cC (.int 0)) (cCons (cC (.int 0)) (cNil)))) (cNil)))) (cNil)))))) (cCons (cA gTup (cCons (cC (.str "go")) (cCons (cC (.int 0)) (cCons (cC (.int 0)) (cCons (cA gTup (cCons (cA gTup (cCons (cC (.int 1)) (cCons (cC (.int 0)) (cNil)))) (cCons (cA gTup (cCons (cC (.int 0)) (cCons (cC (.int 1)) (cNil)))) (cNil)))) (cNil)))))) (cCons (cA gTup (cCons (cC (.str "leave")) (cCons (cC (.int 0)) (cCons (cA gTup (cNil)) (cNil))))) (cNil))))) (bName 4)) (cSeq (cFor (cIt (c2 gAdd (cVar 4) (cA gLst (cCons (cA gTup (cCons (cC (.str "call")) (cCons (cC (.int 0)) (cCons (cC (.int 0)) (cCons (cC (.str "p")) (cCons (cA gTup (cCons (cC (.int 0)) (cNil))) (cCons (cC (.int 0)) (cNil)))))))) (cCons (cA gTup (cCons (cC (.str "post")) (cCons (cC (.int 0)) (cCons (cC (.int 1)) (cCons (cC (.str "p")) (cCons (cA gTup (cCons (cC (.int 0)) (cNil))) (cNil))))))) (cCons (cA gTup (cCons (cC (.str "fail")) (cCons (cC (.int 0)) (cCons (cA gTup (cCons (cC (.int 0)) (cNil))) (cNil))))) (cNil))))))) (bName 5) (cApp 3 (c2 gIsN (cMetN "InvalidProgram" (cA (fun ds => (cF 4 F_Procedure_of) (.cls "Procedure" :: ds)) (cCons (cC (.str "p")) (cCons (cC (.int 1)) (cCons (cA gTup (cCons (cVar 5) (cNil))) (cNil)))))) (cC .non)))) (cSeq (cApp 3 (c2 gNotN (cMetN "InvalidProgram" (cA (gMake "Procedure" (starF 3 F_Procedure___init__)) (cCons (cC (.str "p")) (cCons (cC (.int 2)) (cCons (cA gTup (cCons (cC (.str "post")) (cCons (cC (.int 0)) (cCons (cC (.int 0)) (cCons (cC (.str "q")) (cCons (cA gTup (cCons (cC (.int 0)) (cNil))) (cNil))))))) (cCons (cA gTup (cCons (cC (.str "call")) (cCons (cC (.int 1)) (cCons (cC (.int 0)) (cCons (cC (.str "p")) (cCons (cA gTup (cCons (cC (.int 4)) (cNil))) (cNil))))))) (cNil))))))) (cC .non))) (cFrz 3 (cRet (c2 (gEqI "Procedure" (cF 2 F_Procedure___eq__)) (cVar 3) (c2 gMulA (cA gLst (cCons (cC (.bl true)) (cNil))) (cC (.int 13))))))))))))))))
def F_law : List D → M D := runF 1 6 b_law
abbrev q_law : Str := (envOfC "law" (defScope s_law) 0 0 .none).qual ++ "<lambda>"
theorem ok_law {P : Program} {w : World} {K : PySem.W.Frag} {mg : Str → Option Value} {base : Heap} {cl : Cls_} {tk_LETTERS tk_MAX_LETTERS tk_MAX_MODES tk_MAX_MOVES tk_MAX_POINTS : Tok} {c_ P_ : Addr} {f : Addr} {fdat : FuncData} (T : Txt mg tk_LETTERS tk_MAX_LETTERS tk_MAX_MODES tk_MAX_MOVES tk_MAX_POINTS) (F : FunC K "law" "law" s_law f fdat c_) {e_InvalidProgram : Addr} (V_InvalidProgram : ExV K mg cl "InvalidProgram" e_InvalidProgram) (M_law_met : ∀ X : Cx, X.K = K → X.mg = mg → MetN X "_law_met" e_InvalidProgram) (TB : LamX.TabB base mg c_ P_) (hmT : (P_, q_law) ∈ cl.T) (hu : ∀ p ∈ cl.T, p.1 = P_ → p.2 = q_law) (EQ_Procedure : OwnE P w K mg base cl "Procedure" 1 (cF 2 F_Procedure___eq__)) (MK_Procedure : MkI P w K mg base cl "Procedure" 5 (starF 3 F_Procedure___init__)) (CM_of : CMetI P w K mg base cl "of" "Procedure" 7 (cF 4 F_Procedure_of)) (LN_Procedure : OwnM P w K mg base cl "__len__" "Procedure" 1 (cF 1 F_Procedure___len__)) (C_law_right : CalG P w K mg base cl "_law_right" 10 ["die"] F_law_right) (C_law_numbers : Cal P w K mg base cl "_law_numbers" 1 ["script", "at"] F_law_numbers) : FnG P w K mg base cl 11 f fdat ["script"] F_law := by
  refine fn_DGc F sc_law fun A outer s H E gu hr => ?_
  have nd := sc_law.nd
  have tk : Takes (cxD P w K mg base N_law "law" s_law f (.ref c_) A outer s H E) (fun c d _ H => E c d H) := takes_of rfl rfl rfl rfl
  exact (dss_cons (ds_for (passes_of rfl) rfl (di_rng1 T.b_range (de_callB (call_max2 rfl) cd_max2 T.b_max (da_cons de_int (da_cons (de_callB (call_min2 rfl) cd_min2 T.b_min (da_cons de_int (da_cons (de_callB (call_lenI LN_Procedure (hr.mono (by decide))) cd_lenI T.b_len (da_cons (de_var 0) da_nil)) da_nil))) da_nil)))) (dg_name (i := 1) nd) (dss_one (ds_if (dt_not (dt_val (de_calG C_law_right gu (hr.mono (by decide)) tk (da_cons (de_cal C_law_numbers (hr.mono (by decide)) tk (da_cons (de_var 0) (da_cons (de_var 1) da_nil))) da_nil)))) (dss_one (ds_ret de_bl)) dss_nil))) (dss_cons (ds_set 2 nd (de_bin op_mulB od_mulB (de_tup (da_cons (de_tup (da_cons de_str (da_cons de_int (da_cons de_int (da_cons (de_callTy call_tuple_of cd_tuple T.b_tuple (da_cons (de_lc [("at", 1)] rfl nd (di_rng1 T.b_range de_int) (blkOk_by (own := [("at", 1)]) (N := N_law) (sc := defScope s_law) (by decide +kernel)) (fun _ _ _ _ _ => (dg_name (i := 1) nd)) (fun _ _ _ _ _ => by exact dts_nil) (fun _ _ _ _ _ => by exact (de_tup (da_cons (de_fdiv (de_var 1) de_int) (da_cons (de_mod (de_var 1) de_int) da_nil))))) da_nil)) da_nil))))) da_nil)) de_int)) (dss_cons (ds_setOwn 3 nd (da_cons (de_cmp op_notN od_notN (de_metN (k := 7) (M_law_met _ rfl rfl) V_InvalidProgram.c TB rfl hmT hu (hr.mono (by decide)) (LamX.lamS_by (sc := defScope s_law) (by decide +kernel)) (fun A outer s H E f c' hr => by exact (de_cmeth (x := "Procedure") CM_of (hr.mono (by decide)) (takes_of rfl rfl rfl rfl) (da_cons de_str (da_cons de_int (da_cons (de_var 2) da_nil)))))) de_non (nomark _)) da_nil)) (dss_cons (ds_app 3 (pe_bm PySem.F.plainAttrs_list PySem.F.slot_list_append PySem.F.type_list_append mt_append (pv 3) (pa_cons (de_cmp op_isN od_isN (de_metN (k := 7) (M_law_met _ rfl rfl) V_InvalidProgram.c TB rfl hmT hu (hr.mono (by decide)) (LamX.lamS_by (sc := defScope s_law) (by decide +kernel)) (fun A outer s H E f c' hr => by exact (de_cmeth (x := "Procedure") CM_of (hr.mono (by decide)) (takes_of rfl rfl rfl rfl) (da_cons de_str (da_cons de_int (da_cons (de_add (de_var 2) (de_sl (de_var 2) do_none (do_some de_int))) da_nil)))))) de_non (nomark _)) pa_nil))) (dss_cons (ds_app 3 (pe_bm PySem.F.plainAttrs_list PySem.F.slot_list_append PySem.F.type_list_append mt_append (pv 3) (pa_cons (de_cmp op_isN od_isN (de_metN (k := 7) (M_law_met _ rfl rfl) V_InvalidProgram.c TB rfl hmT hu (hr.mono (by decide)) (LamX.lamS_by (sc := defScope s_law) (by decide +kernel)) (fun A outer s H E f c' hr => by exact (de_cmeth (x := "Procedure") CM_of (hr.mono (by decide)) (takes_of rfl rfl rfl rfl) (da_cons de_str (da_cons de_int (da_cons (de_tup da_nil) da_nil)))))) de_non (nomark _)) pa_nil))) (dss_cons (ds_app 3 (pe_bm PySem.F.plainAttrs_list PySem.F.slot_list_append PySem.F.type_list_append mt_append (pv 3) (pa_cons (de_cmp (op_eqI EQ_Procedure (hr.mono (by decide))) od_eqI (de_metN (k := 7) (M_law_met _ rfl rfl) V_InvalidProgram.c TB rfl hmT hu (hr.mono (by decide)) (LamX.lamS_by (sc := defScope s_law) (by decide +kernel)) (fun A outer s H E f c' hr => by exact (de_make MK_Procedure (hr.mono (by decide)) (takes_of rfl rfl rfl rfl) (da_cons de_str (da_cons de_int da_nil))))) (de_cmeth (x := "Procedure") CM_of (hr.mono (by decide)) tk (da_cons de_str (da_cons de_int (da_cons (de_tup da_nil) da_nil)))) (nomark _)) pa_nil))) (dss_cons (ds_app 3 (pe_bm PySem.F.plainAttrs_list PySem.F.slot_list_append PySem.F.type_list_append mt_append (pv 3) (pa_cons (de_cmp op_notN od_notN (de_metN (k := 7) (M_law_met _ rfl rfl) V_InvalidProgram.c TB rfl hmT hu (hr.mono (by decide)) (LamX.lamS_by (sc := defScope s_law) (by decide +kernel)) (fun A outer s H E f c' hr => by exact (de_make MK_Procedure (hr.mono (by decide)) (takes_of rfl rfl rfl rfl) (da_cons de_str (da_cons de_int (da_cons (de_tup (da_cons de_str (da_cons de_int (da_cons (de_tup (da_cons de_int da_nil)) da_nil)))) da_nil)))))) de_non (nomark _)) pa_nil))) (dss_cons (ds_app 3 (pe_bm PySem.F.plainAttrs_list PySem.F.slot_list_append PySem.F.type_list_append mt_append (pv 3) (pa_cons (de_cmp op_isN od_isN (de_metN (k := 7) (M_law_met _ rfl rfl) V_InvalidProgram.c TB rfl hmT hu (hr.mono (by decide)) (LamX.lamS_by (sc := defScope s_law) (by decide +kernel)) (fun A outer s H E f c' hr => by exact (de_make MK_Procedure (hr.mono (by decide)) (takes_of rfl rfl rfl rfl) (da_cons de_str (da_cons de_int (da_cons (de_tup (da_cons de_str (da_cons de_int (da_cons (de_tup (da_cons de_int da_nil)) da_nil)))) da_nil)))))) de_non (nomark _)) pa_nil))) (dss_cons (ds_set 4 nd (de_lst (da_cons (de_tup (da_cons de_str (da_cons de_int (da_cons de_int (da_cons (de_tup (da_cons (de_tup (da_cons de_int (da_cons de_int da_nil))) (da_cons (de_tup (da_cons de_int (da_cons de_int da_nil))) da_nil))) da_nil))))) (da_cons (de_tup (da_cons de_str (da_cons de_int (da_cons de_int (da_cons (de_tup (da_cons (de_tup (da_cons de_int (da_cons de_int da_nil))) (da_cons (de_tup (da_cons de_int (da_cons de_int da_nil))) da_nil))) da_nil))))) (da_cons (de_tup (da_cons de_str (da_cons de_int (da_cons (de_tup da_nil) da_nil)))) da_nil))))) (dss_cons (ds_for (passes_of rfl) rfl (di_seq (de_add (de_var 4) (de_lst (da_cons (de_tup (da_cons de_str (da_cons de_int (da_cons de_int (da_cons de_str (da_cons (de_tup (da_cons de_int da_nil)) (da_cons de_int da_nil))))))) (da_cons (de_tup (da_cons de_str (da_cons de_int (da_cons de_int (da_cons de_str (da_cons (de_tup (da_cons de_int da_nil)) da_nil)))))) (da_cons (de_tup (da_cons de_str (da_cons de_int (da_cons (de_tup (da_cons de_int da_nil)) da_nil)))) da_nil)))))) (dg_name (i := 5) nd) (dss_one (ds_app 3 (pe_bm PySem.F.plainAttrs_list PySem.F.slot_list_append PySem.F.type_list_append mt_append (pv 3) (pa_cons (de_cmp op_isN od_isN (de_metN (k := 7) (M_law_met _ rfl rfl) V_InvalidProgram.c TB rfl hmT hu (hr.mono (by decide)) (LamX.lamS_by (sc := defScope s_law) (by decide +kernel)) (fun A outer s H E f c' hr => by exact (de_cmeth (x := "Procedure") CM_of (hr.mono (by decide)) (takes_of rfl rfl rfl rfl) (da_cons de_str (da_cons de_int (da_cons (de_tup (da_cons (de_var 5) da_nil)) da_nil)))))) de_non (nomark _)) pa_nil))))) (dss_cons (ds_app 3 (pe_bm PySem.F.plainAttrs_list PySem.F.slot_list_append PySem.F.type_list_append mt_append (pv 3) (pa_cons (de_cmp op_notN od_notN (de_metN (k := 7) (M_law_met _ rfl rfl) V_InvalidProgram.c TB rfl hmT hu (hr.mono (by decide)) (LamX.lamS_by (sc := defScope s_law) (by decide +kernel)) (fun A outer s H E f c' hr => by exact (de_make MK_Procedure (hr.mono (by decide)) (takes_of rfl rfl rfl rfl) (da_cons de_str (da_cons de_int (da_cons (de_tup (da_cons de_str (da_cons de_int (da_cons de_int (da_cons de_str (da_cons (de_tup (da_cons de_int da_nil)) da_nil)))))) (da_cons (de_tup (da_cons de_str (da_cons de_int (da_cons de_int (da_cons de_str (da_cons (de_tup (da_cons de_int da_nil)) da_nil)))))) da_nil))))))) de_non (nomark _)) pa_nil))) (dss_frz 3 (dss_one (ds_ret (de_cmp (op_eqI EQ_Procedure (hr.mono (by decide))) od_eqI (de_var 3) (de_bin op_mulB od_mulB (de_lst (da_cons de_bl da_nil)) de_int) (nomark _))))))))))))))))
end K10
namespace K10
open PySem PySem.Spec PyProof.Rows L2 DN KB
local macro_rules | `(tactic| walk_at "STN") => `(tactic| (repeat (first | with_reducible refine ws_seq ?_ | with_reducible refine ws_asg ?_ | with_reducible refine ws_ret ?_ | with_reducible refine ws_if ?_ | with_reducible refine ws_next ?_ | with_reducible refine ws_retN ?_ | with_reducible refine ws_brk ?_ | with_reducible refine ws_cont ?_ | with_reducible refine ws_drop ?_ | with_reducible refine ws_setI ?_ | with_reducible refine ws_for ?_ | with_reducible refine ws_par ?_ | with_reducible refine ws_frz ?_ | with_reducible refine ws_parO ?_ | with_reducible refine ws_setOwn ?_ | with_reducible refine ⟨fun _ => ?_, fun z => absurd rfl z⟩ | refine And.intro rt_nx fun _ => ?_ | refine And.intro bk_nx fun _ => ?_ | refine And.intro ct_nx fun _ => ?_ | with_reducible refine w_c2 ?_ | with_reducible refine w_c1 ?_ | with_reducible refine w_cA ?_ | with_reducible refine w_cons ?_ | with_reducible refine w_nil ?_ | with_reducible refine w_c ?_ | with_reducible refine w_call ?_ | with_reducible refine w_it ?_ | with_reducible refine w_rng1 ?_ | with_reducible refine w_rng2 ?_ | with_reducible refine w_m0 ?_ | with_reducible refine w_m1 ?_ | with_reducible refine w_sl ?_ | with_reducible refine w_part ?_ | with_reducible refine w_noP ?_ | with_reducible refine w_b ?_ | with_reducible refine w_notB ?_ | with_reducible refine w_if ?_ | with_reducible refine w_chain ?_ | with_reducible refine w_zip ?_ | with_reducible refine w_enum ?_ | with_reducible refine wg_add ?_ | with_reducible refine wg_sub ?_ | with_reducible refine wg_neg ?_ | with_reducible refine wg_lt ?_ | with_reducible refine wg_le ?_ | with_reducible refine wg_gt ?_ | with_reducible refine wg_ge ?_ | with_reducible refine wg_not ?_ | with_reducible refine wg_lenL ?_ | with_reducible refine wg_lenT ?_ | with_reducible refine wg_lenC ?_ | with_reducible refine wg_int ?_ | with_reducible refine wg_intB ?_ | with_reducible refine wg_abs ?_ | with_reducible refine wg_max2 ?_ | with_reducible refine wg_min2 ?_ | with_reducible refine wg_reprB ?_ | with_reducible refine wg_itL ?_ | with_reducible refine wg_itT ?_ | with_reducible refine wg_itC ?_ | with_reducible refine wg_itS ?_ | with_reducible refine wg_slL ?_ | with_reducible refine wg_slT ?_ | with_reducible refine wg_tupleL ?_ | with_reducible refine wg_tupleT ?_ | with_reducible refine wg_listL ?_ | with_reducible refine wg_listT ?_ | with_reducible refine wg_revL ?_ | with_reducible refine wg_revT ?_ | with_reducible refine wg_zipT ?_ | with_reducible refine wg_allM ?_ | with_reducible refine wg_anyM ?_ | with_reducible refine w_var (by with_unfolding_all rfl) ?_ | with_reducible refine wg_mul (Or.inr (by decide)) ?_ | with_reducible refine wg_mul (Or.inl (by decide)) ?_ | with_reducible refine wg_mod (by decide +kernel) ?_ | with_reducible refine wg_fdiv (by decide) ?_ | with_reducible refine wg_pow (by decide +kernel) ?_ | with_reducible refine wg_tup (by simp; done) ?_ | with_reducible refine wg_lst (by simp; done) ?_ | with_reducible refine w_dieSet (by decide) ?_ | with_reducible refine w_dieAt (by decide) (fun _ => ?_) | refine ⟨_, rfl, ?_⟩ | refine ⟨rfl, ?_⟩ | with_reducible refine wg_ltI ?_ | with_reducible refine wg_mulAI (Or.inr (by decide)) ?_ | with_reducible refine wg_mulAI (Or.inl (by decide)) ?_ | with_reducible refine w_dieSetP (by decide) ?_ | with_reducible refine w_cF rfl ?_ | with_reducible refine wg_neEI ?_ | with_reducible refine wg_neEB ?_ | with_reducible refine wg_neL ?_ | with_reducible refine wg_neT ?_ | with_reducible refine wg_lenIT ?_ | with_reducible refine wg_lenIL ?_ | with_reducible refine wg_lenIC ?_ | with_reducible refine ws_match ?_ | with_reducible refine ws_parV ?_ | with_reducible refine w_dieAtP (by decide) (fun _ => ?_))))
theorem run_numbers (ns : List Int) (k : Nat) (S : Store) (hS : S.all plC = true) : ∃ S', F_law_numbers [.scr ns, .int k] S = .ok (.mut S.length) S' ∧ IsDiP S.length S' := by
  have hc : ∃ v, Wp (fun S' => S' = S) (cIf (cB (c2 gLtT (cVar 1) (cA gLen (cCons (cVar 0) (cNil))))) (c2 gIx (cVar 0) (cVar 1)) (c2 gAdd (c2 gMulA (cC (.int 67)) (cVar 1)) (cC (.int 23))) [Sl.val (.scr ns), Sl.val (.int k), Sl.un, Sl.un, Sl.un]) (fun d => d = D.int v) X0 := by
    by_cases hk : (k : Int) < ns.length
    · obtain ⟨v, e, _⟩ := at_some (xs := ns) (i := k) (by omega) hk
      refine ⟨v, ?_⟩
      walk_at "STN"
      refine ⟨fun _ => ?_, fun h => absurd (decide_eq_true hk) (by rw [h]; decide)⟩
      walk_at "STN"
      exact wg_ixC e rfl
    · refine ⟨67 * k + 23, ?_⟩
      walk_at "STN"
      refine ⟨fun h => absurd (of_decide_eq_true h) hk, fun _ => ?_⟩
      walk_at "STN"
      rfl
  obtain ⟨v, hc⟩ := hc
  have h0 : ∃ ρ2 a b c, b_law_numbers ([D.scr ns, .int k].map Sl.val ++ List.replicate (5 - 2) Sl.un) S = .go (.rt (.mut S.length)) ρ2 (S ++ [.lst [.int a, .int b, .int c]]) := by
    refine wl2_asg ?_
    refine hc.imp (fun d hd => ?_) fun _ _ x => x
    subst hd
    refine wl2_asg ?_
    walk_at "STN"
    refine wl2_asg ?_
    walk_at "STN"
    refine wl2_ret ?_
    walk_at "STN"
    exact ⟨_, _, _, rfl⟩
  obtain ⟨ρ2, a, b, c, e⟩ := h0
  refine ⟨S ++ [.lst [.int a, .int b, .int c]], ?_, ⟨a, b, c, by rw [List.getElem?_append_right (Nat.le_refl _), Nat.sub_self]; rfl⟩, by rw [List.all_append, hS]; rfl⟩
  unfold F_law_numbers runF
  rw [e]
  rfl
theorem w_cast {n : Nat} {t : Int} {X : XP} (h0 : 0 < t) (h1 : t < 1073741824) : Wp (IsDiP n) (F_law_cast [.mut n, .int t]) (fun d => ∃ r, d = .int r ∧ 0 ≤ r ∧ r < t) X := by
  refine w_def rfl ?_
  unfold b_law_cast
  walk_at "STN"
  refine ⟨fun _ => ?_, fun _ => ?_⟩
  · walk_at "STN"
    refine wg_mod h0 ?_
    walk_at "STN"
    refine wg_fdiv ⟨h0, h1⟩ ?_
    walk_at "STN"
    exact ⟨Int.emod_nonneg _ (by omega), Int.emod_lt_of_pos _ h0⟩
  · walk_at "STN"
    refine wg_mulAI (Or.inl ⟨by omega, by omega⟩) ?_
    walk_at "STN"
    refine wg_mulAI (Or.inl ⟨by omega, by omega⟩) ?_
    walk_at "STN"
    refine wg_mod h0 ?_
    exact ⟨_, rfl, Int.emod_nonneg _ (by omega), Int.emod_lt_of_pos _ h0⟩
theorem w_pickL {n : Nat} {xs : List D} {X : XP} (h0 : 0 < xs.length) (h1 : xs.length < 1073741824) : Wp (IsDiP n) (F_law_pick [.mut n, .lst xs]) (fun d => d ∈ xs) X := by
  refine w_def rfl ?_
  unfold b_law_pick
  walk_at "STN"
  refine (w_cast (by omega) (by omega)).imp (fun d ⟨r, e, a, b⟩ => ?_) fun _ _ x => x
  subst e
  obtain ⟨d, e, e2⟩ := at_some (xs := xs) a (by omega)
  exact wg_ixL e (List.mem_of_getElem? e2)
def oddL : List D := [.non, .int 0, .int 1, .int 7, .int 99, .int (-1), .bl true, .bl false, .str "", .str "a", .str "B", .str "abcdefghi", .tup [], .tup [.int 0], .tup [.int 1, .int 0], .tup [.int 0, .int 0], .lst [.int 0], .dct [], .str "p",
  .int (10 ^ 39), .tup [.non], .tup [.tup [.int 0, .int 0]], .tup [.tup [.int 0, .int 0], .tup [.int 0, .int 0]], .tup [.str "a"], .tup [.str "p", .int 0], .str "go", .str "post", .str "call"]
theorem w_odd {n : Nat} {X : XP} : Wp (IsDiP n) (F_law_odd_one [.mut n]) (fun d => d ∈ oddL) X := by
  refine w_def rfl ?_
  unfold b_law_odd_one
  walk_at "STN"
  refine wg_addL (by simp) ?_
  walk_at "STN"
  exact w_pickL (xs := oddL) (by decide) (by decide)
end K10
/-! K10p: what the data of the law are; plain facts about ==, sorted. -/
namespace K10
open PySem PySem.Spec PyProof.Rows L2 DN KB
def WL : List Str := ["", "a", "B", "abcdefghi", "p", "go", "post", "call", "main", "q", "leave", "fail"]
def bnd : Nat → Nat
  | 0 => 4 | 1 => 4 | 2 => 4 | 3 => 6 | _ => 40
def fin0 : D → Bool
  | .non => true
  | .bl _ => true
  | .int i => (decide (-1 ≤ i) && decide (i ≤ 99)) || decide (i = 10 ^ 39)
  | .str z => WL.contains z
  | .dct kvs => kvs.isEmpty
  | _ => false
def finD : Nat → D → Bool
  | 0 => fin0
  | n + 1 => fun d => match d with
    | .tup xs => decide (xs.length ≤ bnd n) && xs.all (finD n)
    | .lst xs => decide (xs.length ≤ bnd n) && xs.all (finD n)
    | d => fin0 d
theorem bnd_le : ∀ n, bnd n ≤ bnd (n + 1)
  | 0 => by decide | 1 => by decide | 2 => by decide | 3 => by decide | _ + 4 => Nat.le_refl 40
theorem fin0_up : ∀ (n : Nat) {d : D}, fin0 d = true → finD n d = true
  | 0, _, h => h
  | n + 1, d, h => by cases d <;> first | exact h | cases h
theorem fin_up : ∀ (n : Nat) {d : D}, finD n d = true → finD (n + 1) d = true
  | 0, d, h => fin0_up 1 h
  | n + 1, d, h => by
    have key : ∀ xs : List D, (decide (xs.length ≤ bnd n) && xs.all (finD n)) = true → (decide (xs.length ≤ bnd (n + 1)) && xs.all (finD (n + 1))) = true := fun xs h => by
      rw [Bool.and_eq_true, decide_eq_true_eq, List.all_eq_true] at *
      exact ⟨Nat.le_trans h.1 (bnd_le n), fun x hx => fin_up n (h.2 x hx)⟩
    cases d with
    | tup xs => exact key xs h
    | lst xs => exact key xs h
    | _ => exact h
theorem fin_le {n m : Nat} {d : D} (h : finD n d = true) (hm : n ≤ m) : finD m d = true := by
  induction hm with
  | refl => exact h
  | step _ ih => exact fin_up _ ih
theorem fin_tup {n : Nat} {xs : List D} : finD (n + 1) (.tup xs) = true ↔ xs.length ≤ bnd n ∧ ∀ x ∈ xs, finD n x = true := by
  show (decide (xs.length ≤ bnd n) && xs.all (finD n)) = true ↔ _
  rw [Bool.and_eq_true, decide_eq_true_eq, List.all_eq_true]
theorem fin_lst {n : Nat} {xs : List D} : finD (n + 1) (.lst xs) = true ↔ xs.length ≤ bnd n ∧ ∀ x ∈ xs, finD n x = true := by
  show (decide (xs.length ≤ bnd n) && xs.all (finD n)) = true ↔ _
  rw [Bool.and_eq_true, decide_eq_true_eq, List.all_eq_true]
theorem fin_kn : ∀ {n : Nat} {d : D}, finD n d = true → Ty d ∧ ∃ i, kn d = some i := by
  intro n d h
  cases d with
  | dct kvs =>
    have h : kvs.isEmpty = true := by cases n <;> exact h
    exact ⟨⟨_, rfl⟩, 5, by show (if kvs.isEmpty = true then some 5 else none) = some 5; rw [if_pos h]⟩
  | non => exact ⟨⟨_, rfl⟩, _, rfl⟩
  | bl _ => exact ⟨⟨_, rfl⟩, _, rfl⟩
  | int _ => exact ⟨⟨_, rfl⟩, _, rfl⟩
  | str _ => exact ⟨⟨_, rfl⟩, _, rfl⟩
  | tup _ => exact ⟨⟨_, rfl⟩, _, rfl⟩
  | lst _ => exact ⟨⟨_, rfl⟩, _, rfl⟩
  | _ => cases n <;> cases h
theorem fin_ty {n : Nat} {d : D} (h : finD n d = true) : Ty d := (fin_kn h).1
theorem pls_of : ∀ {xs : List D}, (∀ x ∈ xs, plD x = true) → plDs xs = true
  | [], _ => rfl
  | x :: xs, h => by unfold plDs; rw [h x List.mem_cons_self, pls_of fun y hy => h y (List.mem_cons_of_mem _ hy)]; rfl
theorem fin_pl : ∀ {n : Nat} {d : D}, finD n d = true → plD d = true
  | 0, d, h => by
    cases d with
    | dct kvs =>
      have h : kvs.isEmpty = true := h
      cases List.isEmpty_iff.mp h
      rfl
    | _ => first | rfl | cases h
  | n + 1, d, h => by
    cases d with
    | tup xs => exact pls_of fun x hx => fin_pl ((fin_tup.mp h).2 x hx)
    | lst xs => exact pls_of fun x hx => fin_pl ((fin_lst.mp h).2 x hx)
    | dct kvs =>
      have h : kvs.isEmpty = true := h
      cases List.isEmpty_iff.mp h
      rfl
    | _ => first | rfl | cases h
/-! == -/
theorem eqN_tnil (xs : List D) : eqN 50 (.tup xs) (.tup []) = some xs.isEmpty := by cases xs <;> rfl
theorem eqN_lnil (xs : List D) : eqN 50 (.lst xs) (.lst []) = some xs.isEmpty := by cases xs <;> rfl
theorem eqN_int (i j : Int) : eqN 50 (.int i) (.int j) = some (i == j) := rfl
theorem eqN_s (a b : Str) : eqN 50 (.str a) (.str b) = some (a == b) := rfl
theorem eqN_str {x : D} {z : Str} {i : Nat} (h : kn x = some i) : eqN 50 x (.str z) = some (isS x z) := by
  have e : eqN 50 x (.str z) = eqB (eqN 49) true x (.str z) := rfl
  rw [e]
  unfold eqB
  rw [h]
  cases x with
  | str w =>
    cases h
    show some (w == z) = some (z == w)
    congr 1
    rw [Bool.eq_iff_iff, beq_iff_eq, beq_iff_eq]
    exact eq_comm
  | dct kvs => have := kn_dct h; subst this; rfl
  | _ => cases h <;> rfl
theorem allN_ints {n : Nat} : ∀ ns ms : List Int, ns.length = ms.length → allN (eqN (n + 1)) (ns.map D.int) (ms.map D.int) = some (decide (ns = ms))
  | [], [], _ => by rfl
  | [], _ :: _, h => by cases h
  | _ :: _, [], h => by cases h
  | a :: ns, b :: ms, h => by
    have ih := allN_ints (n := n) ns ms (Nat.succ.inj h)
    show (match eqN (n + 1) (.int a) (.int b), allN (eqN (n + 1)) (ns.map D.int) (ms.map D.int) with | some a, some b => some (a && b) | _, _ => none) = _
    rw [ih]
    show some ((a == b) && decide (ns = ms)) = _
    congr 1
    rw [Bool.eq_iff_iff]
    simp
theorem eqL_ints (ns ms : List Int) : eqN 50 (.lst (ns.map D.int)) (.lst (ms.map D.int)) = some (decide (ns = ms)) := by
  show (if (ns.map D.int).length = (ms.map D.int).length then allN (eqN 49) (ns.map D.int) (ms.map D.int) else some false) = _
  by_cases h : ns.length = ms.length
  · rw [if_pos (by rw [List.length_map, List.length_map]; exact h)]
    exact allN_ints ns ms h
  · rw [if_neg (by rw [List.length_map, List.length_map]; exact h), decide_eq_false fun e => h (by rw [e])]
theorem pre_ints {n : Nat} : ∀ ns ms : List Int, (allN (eqN (n + 1)) (ns.map D.int) (ms.map D.int)).map (fun b => b && decide (ns.length = ms.length)) = some (decide (ns = ms))
  | [], [] => by rfl
  | [], b :: ms => by rfl
  | a :: ns, [] => by rfl
  | a :: ns, b :: ms => by
    have ih := pre_ints (n := n) ns ms
    show (match eqN (n + 1) (.int a) (.int b), allN (eqN (n + 1)) (ns.map D.int) (ms.map D.int) with | some a, some b => some (a && b) | _, _ => none).map _ = _
    cases q : allN (eqN (n + 1)) (ns.map D.int) (ms.map D.int) with
    | none => rw [q] at ih; cases ih
    | some c =>
      rw [q] at ih
      have ih : (c && decide (ns.length = ms.length)) = decide (ns = ms) := Option.some.inj ih
      show some (((a == b) && c) && decide ((a :: ns).length = (b :: ms).length)) = _
      congr 1
      have el : decide ((a :: ns).length = (b :: ms).length) = decide (ns.length = ms.length) := by simp
      rw [el, Bool.and_assoc, ih, Bool.eq_iff_iff]
      simp
theorem eqT_ints {n : Nat} (ns ms : List Int) : eqN (n + 2) (.tup (ns.map D.int)) (.tup (ms.map D.int)) = some (decide (ns = ms)) := by
  have h := pre_ints (n := n) ns ms
  show (allN (eqN (n + 1)) (ns.map D.int) (ms.map D.int)).map (fun b => b && decide ((ns.map D.int).length = (ms.map D.int).length)) = _
  rw [List.length_map, List.length_map]
  exact h
theorem allN_tups {n : Nat} : ∀ ks ms : List (List Int), ks.length = ms.length → allN (eqN (n + 2)) (tupsI ks) (tupsI ms) = some (decide (ks = ms))
  | [], [], _ => by rfl
  | [], _ :: _, h => by cases h
  | _ :: _, [], h => by cases h
  | a :: ns, b :: ms, h => by
    have ih := allN_tups (n := n) ns ms (Nat.succ.inj h)
    show (match eqN (n + 2) (.tup (a.map D.int)) (.tup (b.map D.int)), allN (eqN (n + 2)) (tupsI ns) (tupsI ms) with | some a, some b => some (a && b) | _, _ => none) = _
    rw [ih, eqT_ints]
    show some (decide (a = b) && decide (ns = ms)) = _
    congr 1
    rw [Bool.eq_iff_iff]
    simp
theorem eqL_tups (ks ms : List (List Int)) : eqN 50 (.lst (tupsI ks)) (.lst (tupsI ms)) = some (decide (ks = ms)) := by
  show (if (tupsI ks).length = (tupsI ms).length then allN (eqN 49) (tupsI ks) (tupsI ms) else some false) = _
  have l : ∀ ks : List (List Int), (tupsI ks).length = ks.length := fun ks => List.length_map _
  rw [l, l]
  by_cases h : ks.length = ms.length
  · rw [if_pos h]
    exact allN_tups ks ms h
  · rw [if_neg h, decide_eq_false fun e => h (by rw [e])]
/-! ascending -/
def ltD : D → D → Bool
  | .int a, .int b => decide (a < b)
  | .tup xs, .tup ys => (match intsD xs, intsD ys with
    | some ns, some ms => HT.lexLt ns ms
    | _, _ => false)
  | _, _ => false
def ascD : List D → Bool
  | [] => true
  | [_] => true
  | a :: b :: r => ltD a b && ascD (b :: r)
theorem intsD_map : ∀ ns : List Int, intsD (ns.map D.int) = some ns
  | [] => rfl
  | n :: ns => by
    show (match DN.intD (.int n), intsD (ns.map D.int) with | some i, some is => some (i :: is) | _, _ => none) = _
    rw [intsD_map ns]
    rfl
theorem ltD_tup (a b : List Int) : ltD (.tup (a.map D.int)) (.tup (b.map D.int)) = HT.lexLt a b := by
  show (match intsD (a.map D.int), intsD (b.map D.int) with | some ns, some ms => HT.lexLt ns ms | _, _ => false) = _
  rw [intsD_map, intsD_map]
theorem lexLB : ∀ a b : List Int, HT.lexLt a b = SO.lexB a b
  | [], [] => rfl
  | [], _ :: _ => rfl
  | _ :: _, [] => rfl
  | a :: as, b :: bs => by
    show (if a = b then HT.lexLt as bs else decide (a < b)) = (if a = b then SO.lexB as bs else decide (a < b))
    rw [lexLB as bs]
theorem ascI_pw : ∀ ns : List Int, ascD (ns.map D.int) = true ↔ ns.Pairwise (· < ·)
  | [] => ⟨fun _ => List.Pairwise.nil, fun _ => rfl⟩
  | [a] => ⟨fun _ => List.pairwise_singleton _ _, fun _ => rfl⟩
  | a :: b :: r => by
    have ih := ascI_pw (b :: r)
    show (decide (a < b) && ascD ((b :: r).map D.int)) = true ↔ _
    rw [Bool.and_eq_true, decide_eq_true_eq, ih, List.pairwise_cons (a := a)]
    constructor
    · rintro ⟨h1, h2⟩
      refine ⟨fun c hc => ?_, h2⟩
      rcases List.mem_cons.mp hc with rfl | hc
      · exact h1
      · exact Int.lt_trans h1 ((List.pairwise_cons.mp h2).1 c hc)
    · rintro ⟨h1, h2⟩
      exact ⟨h1 b List.mem_cons_self, h2⟩
theorem ascI_sort (ns : List Int) : decide (ns = sortI ns) = ascD (ns.map D.int) := by
  rw [Bool.eq_iff_iff, decide_eq_true_eq, ascI_pw]
  exact ⟨fun h => by rw [h]; exact sortI_pw, fun h => pw_uniq h sortI_pw fun k => sortI_mem.symm⟩
theorem ascT_pw : ∀ ks : List (List Int), ascD (tupsI ks) = true ↔ ks.Pairwise (fun a b => SO.lexB a b = true)
  | [] => ⟨fun _ => List.Pairwise.nil, fun _ => rfl⟩
  | [a] => ⟨fun _ => List.pairwise_singleton _ _, fun _ => rfl⟩
  | a :: b :: r => by
    have ih := ascT_pw (b :: r)
    show (ltD (.tup (a.map D.int)) (.tup (b.map D.int)) && ascD (tupsI (b :: r))) = true ↔ _
    rw [Bool.and_eq_true, ltD_tup, lexLB, ih, List.pairwise_cons (a := a)]
    constructor
    · rintro ⟨h1, h2⟩
      refine ⟨fun c hc => ?_, h2⟩
      rcases List.mem_cons.mp hc with rfl | hc
      · exact h1
      · exact SO.lex_tr _ _ _ h1 ((List.pairwise_cons.mp h2).1 c hc)
    · rintro ⟨h1, h2⟩
      exact ⟨h1 b List.mem_cons_self, h2⟩
theorem ascT_sort (ks : List (List Int)) : decide (ks = SO.sortS ks) = ascD (tupsI ks) := by
  rw [Bool.eq_iff_iff, decide_eq_true_eq, ascT_pw]
  exact ⟨fun h => by rw [h]; exact SO.asc_sortS ks, fun h => SO.asc_uniq h (SO.asc_sortS ks) fun z => SO.mem_sortS.symm⟩
end K10
/-! K10q: what the judging defs answer. -/
namespace DN
open PySem PySem.Spec PyProof.Rows L2
section
variable {I : Store → Prop} {P : D → Prop} {ρ : DN.Env} {fi fi1 : DN.Env → M (List D)} {b b1 : Bd} {f : DN.Env → M D} {vs vs1 : List Nat}
theorem w_compL1 {g : D → D} : ∀ {ds : List D}, (∀ d ∈ ds, ∃ ρ', b d ρ = some ρ' ∧ Wp I (f ρ') (fun y => y = g d) X0) → Wp I (compL b cYes f ρ ds) (fun ys => ys = ds.map g) X0 := fun {ds} h =>
  (w_compL (R := fun d o => o = some (g d)) fun d hd => by
    obtain ⟨ρ', e, w⟩ := h d hd
    exact ⟨ρ', e, w_yes ⟨fun _ => w.imp (fun y hy => by rw [hy]) fun _ _ x => x, fun z => nomatch z⟩⟩).imp (fun ys hys => hys.map) fun _ _ x => x
theorem w_comp2M (g1 : D → List D) (g : D → D) {X : XP} (h : Wp I (fi ρ) (fun ds => (ds.flatMap g1).length ≤ 16777216 ∧ (∀ d ∈ ds, ∃ ρ', b d (wipeE ρ vs) = some ρ' ∧ noOwn ρ' = true ∧ Wp I (fi1 ρ') (fun es => es = g1 d ∧ ∀ e ∈ es, ∃ ρ'', b1 e (wipeE ρ' vs1) = some ρ'' ∧ Wp I (f ρ'') (fun y => y = g e) X0) X0) ∧ P (.lst ((ds.flatMap g1).map g))) X) :
    Wp I (cComp2 fi b cYes fi1 b1 cYes f vs vs1 ρ) P X := by
  have key : ∀ ds : List D, (ds.flatMap g1).length ≤ 16777216 → (∀ d ∈ ds, ∃ ρ', b d (wipeE ρ vs) = some ρ' ∧ noOwn ρ' = true ∧ Wp I (fi1 ρ') (fun es => es = g1 d ∧ ∀ e ∈ es, ∃ ρ'', b1 e (wipeE ρ' vs1) = some ρ'' ∧ Wp I (f ρ'') (fun y => y = g e) X0) X0) →
      Wp I (compL2 b cYes fi1 b1 cYes f vs1 (wipeE ρ vs) ds) (fun ys => ys = (ds.flatMap g1).map g) X0 := by
    intro ds
    induction ds with
    | nil => exact fun _ _ => Wp.pure rfl
    | cons d ds ih =>
      intro hl h
      obtain ⟨ρ', e, no, w⟩ := h d List.mem_cons_self
      rw [List.flatMap_cons, List.length_append] at hl
      have ih := ih (by omega) fun x hx => h x (List.mem_cons_of_mem _ hx)
      unfold compL2
      rw [e]
      dsimp only
      rw [if_pos no]
      refine Wp.bind (w_yes ?_)
      rw [if_pos rfl]
      refine Wp.bind (w.imp (fun es ⟨e1, h1⟩ => ?_) fun _ _ x => x)
      refine Wp.bind ((w_compL1 (g := g) h1).imp (fun ys hys => ?_) fun _ _ x => x)
      refine Wp.bind (ih.imp (fun zs hzs => ?_) fun _ _ x => x)
      subst hys hzs e1
      refine Wp.chk (by rw [List.length_map, List.length_map]; exact hl) (Wp.pure ?_)
      rw [List.flatMap_cons, List.map_append]
  unfold cComp2
  exact Wp.bind (h.imp (fun ds ⟨h1, h2, h3⟩ => Wp.bind ((w_noX (key ds h1 h2)).imp (fun ys hys => by subst hys; exact Wp.pure h3) fun _ _ x => x)) fun _ _ x => x)
end
end DN
namespace K10
open PySem PySem.Spec PyProof.Rows L2 DN KB
local macro_rules | `(tactic| walk_at "STN") => `(tactic| (repeat (first | with_reducible refine ws_seq ?_ | with_reducible refine ws_asg ?_ | with_reducible refine ws_ret ?_ | with_reducible refine ws_if ?_ | with_reducible refine ws_next ?_ | with_reducible refine ws_retN ?_ | with_reducible refine ws_brk ?_ | with_reducible refine ws_cont ?_ | with_reducible refine ws_drop ?_ | with_reducible refine ws_setI ?_ | with_reducible refine ws_for ?_ | with_reducible refine ws_par ?_ | with_reducible refine ws_frz ?_ | with_reducible refine ws_parO ?_ | with_reducible refine ws_setOwn ?_ | with_reducible refine ⟨fun _ => ?_, fun z => absurd rfl z⟩ | refine And.intro rt_nx fun _ => ?_ | refine And.intro bk_nx fun _ => ?_ | refine And.intro ct_nx fun _ => ?_ | with_reducible refine w_c2 ?_ | with_reducible refine w_c1 ?_ | with_reducible refine w_cA ?_ | with_reducible refine w_cons ?_ | with_reducible refine w_nil ?_ | with_reducible refine w_c ?_ | with_reducible refine w_call ?_ | with_reducible refine w_it ?_ | with_reducible refine w_rng1 ?_ | with_reducible refine w_rng2 ?_ | with_reducible refine w_m0 ?_ | with_reducible refine w_m1 ?_ | with_reducible refine w_sl ?_ | with_reducible refine w_part ?_ | with_reducible refine w_noP ?_ | with_reducible refine w_b ?_ | with_reducible refine w_notB ?_ | with_reducible refine w_if ?_ | with_reducible refine w_chain ?_ | with_reducible refine w_zip ?_ | with_reducible refine w_enum ?_ | with_reducible refine wg_add ?_ | with_reducible refine wg_sub ?_ | with_reducible refine wg_neg ?_ | with_reducible refine wg_lt ?_ | with_reducible refine wg_le ?_ | with_reducible refine wg_gt ?_ | with_reducible refine wg_ge ?_ | with_reducible refine wg_not ?_ | with_reducible refine wg_lenL ?_ | with_reducible refine wg_lenT ?_ | with_reducible refine wg_lenC ?_ | with_reducible refine wg_int ?_ | with_reducible refine wg_intB ?_ | with_reducible refine wg_abs ?_ | with_reducible refine wg_max2 ?_ | with_reducible refine wg_min2 ?_ | with_reducible refine wg_reprB ?_ | with_reducible refine wg_itL ?_ | with_reducible refine wg_itT ?_ | with_reducible refine wg_itC ?_ | with_reducible refine wg_itS ?_ | with_reducible refine wg_slL ?_ | with_reducible refine wg_slT ?_ | with_reducible refine wg_tupleL ?_ | with_reducible refine wg_tupleT ?_ | with_reducible refine wg_listL ?_ | with_reducible refine wg_listT ?_ | with_reducible refine wg_revL ?_ | with_reducible refine wg_revT ?_ | with_reducible refine wg_zipT ?_ | with_reducible refine wg_allM ?_ | with_reducible refine wg_anyM ?_ | with_reducible refine w_var (by with_unfolding_all rfl) ?_ | with_reducible refine wg_mul (Or.inr (by decide)) ?_ | with_reducible refine wg_mul (Or.inl (by decide)) ?_ | with_reducible refine wg_mod (by decide +kernel) ?_ | with_reducible refine wg_fdiv (by decide) ?_ | with_reducible refine wg_pow (by decide +kernel) ?_ | with_reducible refine wg_tup (by simp; done) ?_ | with_reducible refine wg_lst (by simp; done) ?_ | with_reducible refine w_dieSet (by decide) ?_ | with_reducible refine w_dieAt (by decide) (fun _ => ?_) | refine ⟨_, rfl, ?_⟩ | refine ⟨rfl, ?_⟩ | with_reducible refine wg_ltI ?_ | with_reducible refine wg_mulAI (Or.inr (by decide)) ?_ | with_reducible refine wg_mulAI (Or.inl (by decide)) ?_ | with_reducible refine w_dieSetP (by decide) ?_ | with_reducible refine w_cF rfl ?_ | with_reducible refine wg_neEI ?_ | with_reducible refine wg_neEB ?_ | with_reducible refine wg_neL ?_ | with_reducible refine wg_neT ?_ | with_reducible refine wg_lenIT ?_ | with_reducible refine wg_lenIL ?_ | with_reducible refine wg_lenIC ?_ | with_reducible refine ws_match ?_ | with_reducible refine ws_parV ?_ | with_reducible refine w_dieAtP (by decide) (fun _ => ?_))))
def isI : D → Bool
  | .int _ => true
  | _ => false
def isNum (k : Int) : D → Bool
  | .int i => decide (0 ≤ i) && decide (i < k)
  | _ => false
def nameW (z : Str) : Bool := (["a", "p", "go", "post", "call", "main", "q", "leave", "fail"] : List Str).contains z
def wordB : D → Bool
  | .str z => nameW z
  | _ => false
def setB (k : Int) : D → Bool
  | .tup xs => !xs.isEmpty && (xs.all (isNum k) && ascD xs)
  | _ => false
def pairB (k : Int) : D → Bool
  | .tup [a, b] => isNum k a && isNum k b
  | _ => false
def pairsB (k : Int) : D → Bool
  | .tup xs => !xs.isEmpty && (xs.all (pairB k) && ascD xs)
  | _ => false
section
variable {I : Store → Prop} {X : XP} {d : D}
theorem w_integer (h : Ty d) : Wp I (F_is_integer [d]) (fun r => r = .bl (isI d)) X := by
  refine w_def rfl ?_
  unfold b_is_integer
  walk_at "STN"
  refine w_andV ?_
  walk_at "STN"
  refine wg_isInt h ?_
  walk_at "STN"
  refine ⟨fun q => ?_, fun q => ?_⟩
  · walk_at "STN"
    refine wg_isBool h ?_
    walk_at "STN"
    cases d <;> first | rfl | cases q
  · cases d <;> first | rfl | cases q
theorem w_below {k : Int} (h : Ty d) : Wp I (F_is_below [d, .int k]) (fun r => r = .bl (isNum k d)) X := by
  refine w_def rfl ?_
  unfold b_is_below
  walk_at "STN"
  refine w_andV ?_
  walk_at "STN"
  refine (w_integer h).imp (fun r hr => ?_) fun _ _ x => x
  subst hr
  walk_at "STN"
  refine ⟨fun q => ?_, fun q => ?_⟩
  · cases d with
    | int i =>
      walk_at "STN"
      refine ⟨fun q => ?_, fun q => ?_⟩
      · walk_at "STN"
        show D.bl _ = D.bl (decide (0 ≤ i) && decide (i < k))
        rw [q, Bool.true_and]
      · show D.bl _ = D.bl (decide (0 ≤ i) && decide (i < k))
        rw [q, Bool.false_and]
    | _ => cases q
  · cases d <;> first | rfl | cases q
theorem w_number {k : Int} (h : Ty d) : Wp I (F_law_is_number [d, .int k]) (fun r => r = .bl (isNum k d)) X := by
  refine w_def rfl ?_
  unfold b_law_is_number
  walk_at "STN"
  refine w_andV ?_
  walk_at "STN"
  refine wg_isInt h ?_
  walk_at "STN"
  refine ⟨fun q => ?_, fun q => ?_⟩
  · refine w_andV ?_
    walk_at "STN"
    refine wg_isBool h ?_
    walk_at "STN"
    refine ⟨fun q2 => ?_, fun q2 => ?_⟩
    · cases d with
      | int i =>
        walk_at "STN"
        refine ⟨fun q => ?_, fun q => ?_⟩
        · walk_at "STN"
          show D.bl _ = D.bl (decide (0 ≤ i) && decide (i < k))
          rw [q, Bool.true_and]
        · show D.bl _ = D.bl (decide (0 ≤ i) && decide (i < k))
          rw [q, Bool.false_and]
      | bl _ => cases q2
      | _ => cases q
    · cases d <;> first | rfl | exact nomatch q2 | exact nomatch q
  · cases d <;> first | rfl | cases q
theorem cutD_drop1 (z : List D) : cutD z (some 1) none = z.drop 1 := by
  rw [cutD_drop (k := 1)]
  rfl
def pLt : D → Bool
  | .tup [a, b] => ltD a b
  | _ => false
theorem zip_asc : ∀ xs : List D, (zipD xs (xs.drop 1)).all pLt = ascD xs
  | [] => rfl
  | [_] => rfl
  | a :: b :: r => by
    have ih := zip_asc (b :: r)
    show (pLt (.tup [a, b]) && (zipD (b :: r) ((b :: r).drop 1)).all pLt) = _
    rw [ih]
    rfl
theorem zip_mem {d : D} : ∀ {xs ys : List D}, d ∈ zipD xs ys → ∃ a b, d = .tup [a, b] ∧ a ∈ xs ∧ b ∈ ys
  | [], _, h => by cases ‹List D› <;> cases h
  | _ :: _, [], h => by cases h
  | x :: xs, y :: ys, h => by
    have h : d ∈ D.tup [x, y] :: zipD xs ys := h
    rcases List.mem_cons.mp h with rfl | h
    · exact ⟨x, y, rfl, List.mem_cons_self, List.mem_cons_self⟩
    · obtain ⟨a, b, e, h1, h2⟩ := zip_mem h
      exact ⟨a, b, e, List.mem_cons_of_mem _ h1, List.mem_cons_of_mem _ h2⟩
theorem zip_len : ∀ xs ys : List D, (zipD xs ys).length ≤ xs.length
  | [], ys => by cases ys <;> exact Nat.le_refl 0
  | _ :: _, [] => Nat.zero_le _
  | _ :: xs, _ :: ys => Nat.succ_le_succ (zip_len xs ys)
theorem w_ascending {xs : List D} (hl : xs.length ≤ 16777216) (hlt : ∀ a ∈ xs, ∀ b ∈ xs, ∀ {P : D → Prop}, P (.bl (ltD a b)) → Wp I (gLtT a b) P X0) : Wp I (F_is_ascending [.tup xs]) (fun r => r = .bl (ascD xs)) X := by
  refine w_def rfl ?_
  unfold b_is_ascending
  refine ws_ret (w_allc pLt ?_)
  walk_at "STN"
  rw [cutD_drop1]
  refine ⟨Nat.le_trans (zip_len _ _) hl, fun d hd => ?_, ?_⟩
  · obtain ⟨a, b, rfl, ha, hb⟩ := zip_mem hd
    refine ⟨_, rfl, ?_⟩
    walk_at "STN"
    exact hlt a ha b (List.mem_of_mem_drop hb) rfl
  · rw [zip_asc]
theorem w_ascI {ns : List Int} (hl : ns.length ≤ 1000) : Wp I (F_is_ascending [.tup (ns.map D.int)]) (fun r => r = .bl (ascD (ns.map D.int))) X := by
  refine w_ascending (by rw [List.length_map]; omega) fun a ha b hb P h => ?_
  obtain ⟨i, _, rfl⟩ := List.mem_map.mp ha
  obtain ⟨j, _, rfl⟩ := List.mem_map.mp hb
  exact wg_ltI h
theorem w_ascT {ks : List (List Int)} (hl : ks.length ≤ 1000) : Wp I (F_is_ascending [.tup (tupsI ks)]) (fun r => r = .bl (ascD (tupsI ks))) X := by
  refine w_ascending (by unfold tupsI; rw [List.length_map]; omega) fun a ha b hb P h => ?_
  obtain ⟨i, _, rfl⟩ := List.mem_map.mp ha
  obtain ⟨j, _, rfl⟩ := List.mem_map.mp hb
  rw [ltD_tup] at h
  exact wg_ltT (intsD_map i) (intsD_map j) h
theorem name_all : ∀ z ∈ WL, ∀ S, F_is_name [.str z] S = .ok (.bl (nameW z)) S := by
  intro z hz S
  unfold WL at hz
  simp only [List.mem_cons, List.not_mem_nil, or_false] at hz
  rcases hz with h | h | h | h | h | h | h | h | h | h | h | h <;> subst h <;> kernel_rfl
theorem word_all : ∀ z ∈ WL, ∀ S, F_law_is_word [.str z] S = .ok (.bl (nameW z)) S := by
  intro z hz S
  unfold WL at hz
  simp only [List.mem_cons, List.not_mem_nil, or_false] at hz
  rcases hz with h | h | h | h | h | h | h | h | h | h | h | h <;> subst h <;> kernel_rfl
theorem fin_strW {n : Nat} {z : Str} (h : finD n (.str z) = true) : z ∈ WL := by
  have h : WL.contains z = true := by cases n <;> exact h
  exact List.contains_iff_mem.mp h
theorem w_name {n : Nat} (h : finD n d = true) : Wp I (F_is_name [d]) (fun r => r = .bl (wordB d)) X := by
  cases d with
  | str z => exact Wp.mk fun S s => by rw [name_all z (fin_strW h) S]; exact ⟨rfl, s⟩
  | _ =>
    refine w_def rfl ?_
    unfold b_is_name
    walk_at "STN"
    refine w_orB ?_
    walk_at "STN"
    refine wg_isStr (fin_ty h) ?_
    walk_at "STN"
    refine ⟨fun q => (nomatch q), fun _ => ?_⟩
    refine ⟨fun _ => ?_, fun z => (nomatch z)⟩
    walk_at "STN"
    rfl
theorem w_word {n : Nat} (h : finD n d = true) : Wp I (F_law_is_word [d]) (fun r => r = .bl (wordB d)) X := by
  cases d with
  | str z => exact Wp.mk fun S s => by rw [word_all z (fin_strW h) S]; exact ⟨rfl, s⟩
  | _ =>
    refine w_def rfl ?_
    unfold b_law_is_word
    walk_at "STN"
    refine w_orB ?_
    walk_at "STN"
    refine wg_isStr (fin_ty h) ?_
    walk_at "STN"
    refine ⟨fun q => (nomatch q), fun _ => ?_⟩
    refine ⟨fun _ => ?_, fun z => (nomatch z)⟩
    walk_at "STN"
    rfl
theorem nums_ints {k : Int} : ∀ {xs : List D}, xs.all (isNum k) = true → ∃ ns : List Int, xs = ns.map D.int
  | [], _ => ⟨[], rfl⟩
  | x :: xs, h => by
    rw [List.all_cons, Bool.and_eq_true] at h
    obtain ⟨ns, rfl⟩ := nums_ints h.2
    cases x with
    | int i => exact ⟨i :: ns, rfl⟩
    | _ => cases h.1
theorem bnd40 : ∀ n, bnd n ≤ 40
  | 0 => by decide | 1 => by decide | 2 => by decide | 3 => by decide | _ + 4 => Nat.le_refl 40
theorem w_mode_set {n : Nat} {k : Int} (h : finD (n + 1) d = true) : Wp I (F_is_mode_set [d, .int k]) (fun r => r = .bl (setB k d)) X := by
  refine w_def rfl ?_
  unfold b_is_mode_set
  walk_at "STN"
  refine w_orB ?_
  walk_at "STN"
  refine wg_isTuple (fin_ty h) ?_
  walk_at "STN"
  refine ⟨fun q => ?_, fun q => ?_⟩
  · cases d with
    | tup xs =>
      obtain ⟨hl, hx⟩ := fin_tup.mp h
      have hl := Nat.le_trans hl (bnd40 n)
      walk_at "STN"
      refine wg_eqN (eqN_tnil xs) ?_
      walk_at "STN"
      refine ⟨fun q => ?_, fun q => ?_⟩
      · walk_at "STN"
        show D.bl false = D.bl (!xs.isEmpty && _)
        rw [q]; rfl
      · walk_at "STN"
        refine w_andV (w_allc (isNum k) ?_)
        walk_at "STN"
        refine ⟨by omega, fun x hxx => ⟨_, rfl, ?_⟩, ?_⟩
        · walk_at "STN"
          exact w_below (fin_ty (hx x hxx))
        · refine ⟨_, rfl, fun a => ?_, fun a => ?_⟩
          · obtain ⟨ns, rfl⟩ := nums_ints a
            walk_at "STN"
            refine (w_ascI (by rw [List.length_map] at hl; omega)).imp (fun r hr => ?_) fun _ _ x => x
            subst hr
            show D.bl _ = D.bl (!(ns.map D.int).isEmpty && ((ns.map D.int).all (isNum k) && _))
            rw [q, a]; rfl
          · show D.bl _ = D.bl (!xs.isEmpty && (xs.all (isNum k) && _))
            rw [a, Bool.false_and, Bool.and_false]
    | _ => cases q
  · refine ⟨fun _ => ?_, fun z => (nomatch z)⟩
    walk_at "STN"
    cases d with
    | tup _ => cases q
    | _ => rfl
theorem w_law_set {n : Nat} {k : Int} (h : finD (n + 1) d = true) : Wp I (F_law_is_set [d, .int k]) (fun r => r = .bl (setB k d)) X := by
  refine w_def rfl ?_
  unfold b_law_is_set
  walk_at "STN"
  refine w_orB ?_
  walk_at "STN"
  refine wg_isTuple (fin_ty h) ?_
  walk_at "STN"
  refine ⟨fun q => ?_, fun q => ?_⟩
  · cases d with
    | tup xs =>
      obtain ⟨hl, hx⟩ := fin_tup.mp h
      have hl := Nat.le_trans hl (bnd40 n)
      walk_at "STN"
      refine wg_eqN (eqN_tnil xs) ?_
      walk_at "STN"
      refine ⟨fun q => ?_, fun q => ?_⟩
      · walk_at "STN"
        show D.bl false = D.bl (!xs.isEmpty && _)
        rw [q]; rfl
      · walk_at "STN"
        refine w_compF (fun d => !isNum k d) (fun d => d) ?_
        walk_at "STN"
        refine ⟨by omega, fun x hxx => ⟨_, rfl, ?_⟩, ?_⟩
        · walk_at "STN"
          refine (w_number (fin_ty (hx x hxx))).imp (fun r hr => ?_) fun _ _ x => x
          subst hr
          refine ⟨_, rfl, rfl, fun _ => ?_⟩
          walk_at "STN"
          rfl
        · rw [List.map_id']
          walk_at "STN"
          refine ⟨fun a => ?_, fun a => ?_⟩
          · walk_at "STN"
            show D.bl false = D.bl (!xs.isEmpty && (xs.all (isNum k) && _))
            have : xs.all (isNum k) = false := by
              cases q2 : xs.all (isNum k) with
              | false => rfl
              | true =>
                have e : xs.filter (fun d => !isNum k d) = [] := List.filter_eq_nil_iff.mpr fun x hx => by rw [List.all_eq_true.mp q2 x hx]; decide
                rw [e] at a; cases a
            rw [this, Bool.false_and, Bool.and_false]
          · have a2 : xs.all (isNum k) = true := by
              rw [List.all_eq_true]
              intro x hx
              have e : xs.filter (fun d => !isNum k d) = [] := by
                cases q2 : xs.filter (fun d => !isNum k d) with
                | nil => rfl
                | cons _ _ => rw [q2] at a; cases a
              have := List.filter_eq_nil_iff.mp e x hx
              cases q2 : isNum k x with
              | true => rfl
              | false => rw [q2] at this; exact absurd rfl this
            obtain ⟨ns, rfl⟩ := nums_ints a2
            walk_at "STN"
            refine wg_sortBI (intsD_map ns) (by rw [List.length_map] at hl; omega) ?_
            refine wg_eqN (eqL_ints _ _) ?_
            walk_at "STN"
            rw [ascI_sort]
            show D.bl _ = D.bl (!(ns.map D.int).isEmpty && ((ns.map D.int).all (isNum k) && _))
            rw [q, a2]; rfl
    | _ => cases q
  · refine ⟨fun _ => ?_, fun z => (nomatch z)⟩
    walk_at "STN"
    cases d with
    | tup _ => cases q
    | _ => rfl
end
end K10
/-! K10r: pairs, moves. -/
namespace K10
open PySem PySem.Spec PyProof.Rows L2 DN KB
local macro_rules | `(tactic| walk_at "STN") => `(tactic| (repeat (first | with_reducible refine ws_seq ?_ | with_reducible refine ws_asg ?_ | with_reducible refine ws_ret ?_ | with_reducible refine ws_if ?_ | with_reducible refine ws_next ?_ | with_reducible refine ws_retN ?_ | with_reducible refine ws_brk ?_ | with_reducible refine ws_cont ?_ | with_reducible refine ws_drop ?_ | with_reducible refine ws_setI ?_ | with_reducible refine ws_for ?_ | with_reducible refine ws_par ?_ | with_reducible refine ws_frz ?_ | with_reducible refine ws_parO ?_ | with_reducible refine ws_setOwn ?_ | with_reducible refine ⟨fun _ => ?_, fun z => absurd rfl z⟩ | refine And.intro rt_nx fun _ => ?_ | refine And.intro bk_nx fun _ => ?_ | refine And.intro ct_nx fun _ => ?_ | with_reducible refine w_c2 ?_ | with_reducible refine w_c1 ?_ | with_reducible refine w_cA ?_ | with_reducible refine w_cons ?_ | with_reducible refine w_nil ?_ | with_reducible refine w_c ?_ | with_reducible refine w_call ?_ | with_reducible refine w_it ?_ | with_reducible refine w_rng1 ?_ | with_reducible refine w_rng2 ?_ | with_reducible refine w_m0 ?_ | with_reducible refine w_m1 ?_ | with_reducible refine w_sl ?_ | with_reducible refine w_part ?_ | with_reducible refine w_noP ?_ | with_reducible refine w_b ?_ | with_reducible refine w_notB ?_ | with_reducible refine w_if ?_ | with_reducible refine w_chain ?_ | with_reducible refine w_zip ?_ | with_reducible refine w_enum ?_ | with_reducible refine wg_add ?_ | with_reducible refine wg_sub ?_ | with_reducible refine wg_neg ?_ | with_reducible refine wg_lt ?_ | with_reducible refine wg_le ?_ | with_reducible refine wg_gt ?_ | with_reducible refine wg_ge ?_ | with_reducible refine wg_not ?_ | with_reducible refine wg_lenL ?_ | with_reducible refine wg_lenT ?_ | with_reducible refine wg_lenC ?_ | with_reducible refine wg_int ?_ | with_reducible refine wg_intB ?_ | with_reducible refine wg_abs ?_ | with_reducible refine wg_max2 ?_ | with_reducible refine wg_min2 ?_ | with_reducible refine wg_reprB ?_ | with_reducible refine wg_itL ?_ | with_reducible refine wg_itT ?_ | with_reducible refine wg_itC ?_ | with_reducible refine wg_itS ?_ | with_reducible refine wg_slL ?_ | with_reducible refine wg_slT ?_ | with_reducible refine wg_tupleL ?_ | with_reducible refine wg_tupleT ?_ | with_reducible refine wg_listL ?_ | with_reducible refine wg_listT ?_ | with_reducible refine wg_revL ?_ | with_reducible refine wg_revT ?_ | with_reducible refine wg_zipT ?_ | with_reducible refine wg_allM ?_ | with_reducible refine wg_anyM ?_ | with_reducible refine w_var (by with_unfolding_all rfl) ?_ | with_reducible refine wg_mul (Or.inr (by decide)) ?_ | with_reducible refine wg_mul (Or.inl (by decide)) ?_ | with_reducible refine wg_mod (by decide +kernel) ?_ | with_reducible refine wg_fdiv (by decide) ?_ | with_reducible refine wg_pow (by decide +kernel) ?_ | with_reducible refine wg_tup (by simp; done) ?_ | with_reducible refine wg_lst (by simp; done) ?_ | with_reducible refine w_dieSet (by decide) ?_ | with_reducible refine w_dieAt (by decide) (fun _ => ?_) | refine ⟨_, rfl, ?_⟩ | refine ⟨rfl, ?_⟩ | with_reducible refine wg_ltI ?_ | with_reducible refine wg_mulAI (Or.inr (by decide)) ?_ | with_reducible refine wg_mulAI (Or.inl (by decide)) ?_ | with_reducible refine w_dieSetP (by decide) ?_ | with_reducible refine w_cF rfl ?_ | with_reducible refine wg_neEI ?_ | with_reducible refine wg_neEB ?_ | with_reducible refine wg_neL ?_ | with_reducible refine wg_neT ?_ | with_reducible refine wg_lenIT ?_ | with_reducible refine wg_lenIL ?_ | with_reducible refine wg_lenIC ?_ | with_reducible refine ws_match ?_ | with_reducible refine ws_parV ?_ | with_reducible refine w_dieAtP (by decide) (fun _ => ?_))))
def isPr : D → Bool
  | .tup xs => ((xs.length : Int) == 2)
  | _ => false
def itemsT : D → List D
  | .tup xs => xs
  | _ => []
theorem isPr_two {d : D} (h : isPr d = true) : ∃ a b, d = .tup [a, b] := by
  cases d with
  | tup xs =>
    have h : ((xs.length : Int) == 2) = true := h
    rw [beq_iff_eq] at h
    match xs, h with
    | [a, b], _ => exact ⟨a, b, rfl⟩
    | [], h => simp at h
    | [_], h => simp at h
    | _ :: _ :: _ :: r, h => simp only [List.length_cons] at h; omega
  | _ => cases h
theorem prs_all {k : Int} : ∀ {xs : List D}, xs.all isPr = true → (xs.flatMap itemsT).all (isNum k) = xs.all (pairB k)
  | [], _ => rfl
  | x :: xs, h => by
    rw [List.all_cons, Bool.and_eq_true] at h
    obtain ⟨a, b, rfl⟩ := isPr_two h.1
    rw [List.flatMap_cons, List.all_append, prs_all h.2, List.all_cons]
    show ((isNum k a && (isNum k b && true)) && _) = ((isNum k a && isNum k b) && _)
    rw [Bool.and_true]
theorem pr_of {k : Int} {x : D} (h : pairB k x = true) : isPr x = true ∧ ∃ i j : Int, x = .tup [.int i, .int j] := by
  unfold pairB at h
  split at h
  · rename_i a b
    rw [Bool.and_eq_true] at h
    cases a with
    | int i =>
      cases b with
      | int j => exact ⟨rfl, i, j, rfl⟩
      | _ => cases h.2
    | _ => cases h.1
  · cases h
theorem prs_tups {k : Int} : ∀ {xs : List D}, xs.all (pairB k) = true → ∃ ks : List (List Int), xs = tupsI ks ∧ ∀ q ∈ ks, q.length = 2
  | [], _ => ⟨[], rfl, fun _ h => nomatch h⟩
  | x :: xs, h => by
    rw [List.all_cons, Bool.and_eq_true] at h
    obtain ⟨_, i, j, rfl⟩ := pr_of h.1
    obtain ⟨ks, rfl, hq⟩ := prs_tups h.2
    refine ⟨[i, j] :: ks, rfl, fun q hq2 => ?_⟩
    rcases List.mem_cons.mp hq2 with rfl | h2
    · rfl
    · exact hq q h2
theorem keysD_tups : ∀ ks : List (List Int), keysD (tupsI ks) = some ks
  | [] => rfl
  | a :: r => by
    show (match keyD (.tup (a.map D.int)), keysD (tupsI r) with | some k, some ks => some (k :: ks) | _, _ => none) = _
    rw [keysD_tups r]
    show (match intsD (a.map D.int), some r with | some k, some ks => some (k :: ks) | _, _ => none) = _
    rw [intsD_map]
theorem flat_len {m : Nat} {g : D → List D} : ∀ {xs : List D}, (∀ x ∈ xs, (g x).length ≤ m) → (xs.flatMap g).length ≤ xs.length * m
  | [], _ => Nat.zero_le _
  | x :: xs, h => by
    rw [List.flatMap_cons, List.length_append, List.length_cons, Nat.succ_mul]
    have := h x List.mem_cons_self
    have := flat_len (xs := xs) fun y hy => h y (List.mem_cons_of_mem _ hy)
    omega
section
variable {I : Store → Prop} {X : XP} {d : D}
theorem w_pair (h : Ty d) : Wp I (F_is_pair [d]) (fun r => r = .bl (isPr d)) X := by
  refine w_def rfl ?_
  unfold b_is_pair
  walk_at "STN"
  refine w_andV ?_
  walk_at "STN"
  refine wg_isTuple h ?_
  walk_at "STN"
  refine ⟨fun q => ?_, fun q => ?_⟩
  · cases d with
    | tup xs =>
      walk_at "STN"
      refine wg_eqN (eqN_int _ _) ?_
      walk_at "STN"
      rfl
    | _ => cases q
  · cases d with
    | tup _ => cases q
    | _ => rfl
theorem pairsB_no {k : Int} {xs : List D} {x : D} (hx : x ∈ xs) (h : pairB k x = false) : pairsB k (.tup xs) = false := by
  show (!xs.isEmpty && (xs.all (pairB k) && ascD xs)) = false
  have : xs.all (pairB k) = false := by
    cases q : xs.all (pairB k) with
    | false => rfl
    | true => rw [List.all_eq_true.mp q x hx] at h; cases h
  rw [this, Bool.false_and, Bool.and_false]
theorem w_are_pairs {n : Nat} (h : finD (n + 2) d = true) : Wp I (F_are_pairs [d]) (fun r => r = .bl (pairsB 5 d)) X := by
  refine w_def rfl ?_
  unfold b_are_pairs
  walk_at "STN"
  refine w_orB ?_
  walk_at "STN"
  refine wg_isTuple (fin_ty h) ?_
  walk_at "STN"
  refine ⟨fun q => ?_, fun q => ?_⟩
  · cases d with
    | tup xs =>
      obtain ⟨hl, hx⟩ := fin_tup.mp h
      have hl := Nat.le_trans hl (bnd40 _)
      refine w_orB ?_
      walk_at "STN"
      refine wg_eqN (eqN_tnil xs) ?_
      walk_at "STN"
      refine ⟨fun q => ?_, fun q => ?_⟩
      · refine w_notB (w_b (w_allc isPr ?_))
        walk_at "STN"
        refine ⟨by omega, fun x hxx => ⟨_, rfl, ?_⟩, ?_⟩
        · walk_at "STN"
          exact w_pair (fin_ty (hx x hxx))
        · refine ⟨_, rfl, fun a => ?_, fun a => ?_⟩
          · walk_at "STN"
            have a : xs.all isPr = false := by
              cases q2 : xs.all isPr with
              | false => rfl
              | true => rw [q2] at a; cases a
            have : xs.all (pairB 5) = false := by
              cases q2 : xs.all (pairB 5) with
              | false => rfl
              | true =>
                have : xs.all isPr = true := List.all_eq_true.mpr fun x hx => (pr_of (List.all_eq_true.mp q2 x hx)).1
                rw [this] at a; cases a
            show D.bl false = D.bl (!xs.isEmpty && (xs.all (pairB 5) && ascD xs))
            rw [this, Bool.false_and, Bool.and_false]
          · have a : xs.all isPr = true := by
              cases q2 : xs.all isPr with
              | true => rfl
              | false => rw [q2] at a; cases a
            walk_at "STN"
            refine w_comp2M itemsT (fun e => .bl (isNum 5 e)) ?_
            walk_at "STN"
            have fl := flat_len (g := itemsT) (m := 40) (xs := xs) fun x hxx => by
              have f := hx x hxx
              cases x with
              | tup ys => exact Nat.le_trans (fin_tup.mp f).1 (bnd40 _)
              | _ => exact Nat.zero_le _
            have fl2 : xs.length * 40 ≤ 40 * 40 := Nat.mul_le_mul_right _ hl
            refine ⟨by omega, fun x hxx => ?_, ?_⟩
            · obtain ⟨u, v, rfl⟩ := isPr_two (List.all_eq_true.mp a x hxx)
              have fx := (fin_tup.mp (hx _ hxx)).2
              refine ⟨_, rfl, rfl, ?_⟩
              walk_at "STN"
              refine fun e he => ⟨_, rfl, ?_⟩
              walk_at "STN"
              exact w_below (fin_ty (fx e he))
            · walk_at "STN"
              rw [prs_all a]
              refine ⟨fun b => ?_, fun b => ?_⟩
              · walk_at "STN"
                have b : xs.all (pairB 5) = false := by
                  cases q2 : xs.all (pairB 5) with
                  | false => rfl
                  | true => rw [q2] at b; cases b
                show D.bl false = D.bl (!xs.isEmpty && (xs.all (pairB 5) && ascD xs))
                rw [b, Bool.false_and, Bool.and_false]
              · have b : xs.all (pairB 5) = true := by
                  cases q2 : xs.all (pairB 5) with
                  | true => rfl
                  | false => rw [q2] at b; cases b
                obtain ⟨ks, rfl, _⟩ := prs_tups b
                walk_at "STN"
                refine (w_ascT (by unfold tupsI at hl; rw [List.length_map] at hl; omega)).imp (fun r hr => ?_) fun _ _ x => x
                subst hr
                show D.bl _ = D.bl (!(tupsI ks).isEmpty && ((tupsI ks).all (pairB 5) && _))
                rw [q, b]; rfl
      · refine ⟨fun _ => ?_, fun z => (nomatch z)⟩
        walk_at "STN"
        show D.bl false = D.bl (!xs.isEmpty && _)
        rw [q]; rfl
    | _ => cases q
  · refine ⟨fun _ => ?_, fun z => (nomatch z)⟩
    walk_at "STN"
    cases d with
    | tup _ => cases q
    | _ => rfl
theorem w_law_pairs {n : Nat} {k : Int} (h : finD (n + 2) d = true) : Wp I (F_law_is_pairs [d, .int k]) (fun r => r = .bl (pairsB k d)) X := by
  refine w_def rfl ?_
  unfold b_law_is_pairs
  walk_at "STN"
  refine w_orB ?_
  walk_at "STN"
  refine wg_isTuple (fin_ty h) ?_
  walk_at "STN"
  refine ⟨fun q => ?_, fun q => ?_⟩
  · cases d with
    | tup xs =>
      obtain ⟨hl, hx⟩ := fin_tup.mp h
      have hl := Nat.le_trans hl (bnd40 _)
      walk_at "STN"
      refine wg_eqN (eqN_tnil xs) ?_
      walk_at "STN"
      refine ⟨fun q => ?_, fun q => ?_⟩
      · walk_at "STN"
        show D.bl false = D.bl (!xs.isEmpty && _)
        rw [q]; rfl
      · walk_at "STN"
        refine ws_forL (J := fun ds ρ => (∃ done, xs = done ++ ds ∧ done.all (pairB k) = true) ∧ ∃ s2, ρ = [.val (.tup xs), .val (.int k), s2]) ?_ ?_ _ _ ⟨⟨[], rfl, rfl⟩, _, rfl⟩
        · rintro x ds ρ ⟨⟨done, ex, hd⟩, s2, rfl⟩
          have mx : x ∈ xs := by rw [ex]; exact List.mem_append_right _ List.mem_cons_self
          have fx := hx x mx
          refine ⟨_, rfl, ?_⟩
          walk_at "STN"
          refine w_orB ?_
          walk_at "STN"
          refine wg_isTuple (fin_ty fx) ?_
          walk_at "STN"
          refine ⟨fun q => ?_, fun q => ?_⟩
          · cases x with
            | tup ys =>
              have fy := (fin_tup.mp fx).2
              walk_at "STN"
              refine ⟨fun q => ?_, fun q => ?_⟩
              · walk_at "STN"
                have no : pairB k (.tup ys) = false := by
                  cases q2 : pairB k (.tup ys) with
                  | false => rfl
                  | true =>
                    obtain ⟨_, i, j, e⟩ := pr_of q2
                    cases e
                    cases q
                rw [pairsB_no mx no]
              · have two : isPr (.tup ys) = true := by
                  show ((ys.length : Int) == 2) = true
                  rw [beq_iff_eq]
                  cases q2 : decide ((ys.length : Int) = 2) with
                  | true => exact of_decide_eq_true q2
                  | false => rw [q2] at q; cases q
                obtain ⟨u, v, e⟩ := isPr_two two
                cases e
                walk_at "STN"
                refine w_orB ?_
                walk_at "STN"
                refine wg_ixT (d := u) (by rfl) ?_
                walk_at "STN"
                refine (w_number (fin_ty (fy u (by simp)))).imp (fun r hr => ?_) fun _ _ x => x
                subst hr
                walk_at "STN"
                refine ⟨fun a => ?_, fun a => ?_⟩
                · have a : isNum k u = true := by
                    cases q2 : isNum k u with
                    | true => rfl
                    | false => rw [q2] at a; cases a
                  walk_at "STN"
                  refine wg_ixT (d := v) (by rfl) ?_
                  walk_at "STN"
                  refine (w_number (fin_ty (fy v (by simp)))).imp (fun r hr => ?_) fun _ _ x => x
                  subst hr
                  walk_at "STN"
                  refine ⟨fun b => ?_, fun b => ?_⟩
                  · walk_at "STN"
                    have no : pairB k (.tup [u, v]) = false := by
                      show (isNum k u && isNum k v) = false
                      cases q2 : isNum k v with
                      | false => rw [Bool.and_false]
                      | true => rw [q2] at b; cases b
                    rw [pairsB_no mx no]
                  · have b : isNum k v = true := by
                      cases q2 : isNum k v with
                      | true => rfl
                      | false => rw [q2] at b; cases b
                    walk_at "STN"
                    refine ⟨⟨done ++ [.tup [u, v]], by rw [ex, List.append_assoc]; rfl, ?_⟩, _, rfl⟩
                    rw [List.all_append, hd]
                    show (true && ((isNum k u && isNum k v) && true)) = true
                    rw [a, b]; rfl
                · refine ⟨fun _ => ?_, fun z => (nomatch z)⟩
                  walk_at "STN"
                  have no : pairB k (.tup [u, v]) = false := by
                    show (isNum k u && isNum k v) = false
                    cases q2 : isNum k u with
                    | false => rw [Bool.false_and]
                    | true => rw [q2] at a; cases a
                  rw [pairsB_no mx no]
            | _ => cases q
          · refine ⟨fun _ => ?_, fun z => (nomatch z)⟩
            walk_at "STN"
            have no : pairB k x = false := by
              cases x with
              | tup _ => cases q
              | _ => rfl
            rw [pairsB_no mx no]
        · rintro ρ ⟨⟨done, ex, hd⟩, s2, rfl⟩
          rw [List.append_nil] at ex
          subst ex
          obtain ⟨ks, rfl, hk⟩ := prs_tups hd
          have e0 : intsD (tupsI ks) = none := by
            cases ks with
            | nil => cases q
            | cons _ _ => rfl
          have e1 := keysD_tups ks
          have e2 : evenK ks = true := by
            cases ks with
            | nil => rfl
            | cons a r =>
              unfold evenK
              rw [Bool.and_eq_true, decide_eq_true_eq, List.all_eq_true]
              have ha := hk a List.mem_cons_self
              exact ⟨by omega, fun z hz => decide_eq_true (by rw [ha, hk z (List.mem_cons_of_mem _ hz)])⟩
          walk_at "STN"
          refine wg_sortBT e0 e1 ⟨by unfold tupsI at hl; rw [List.length_map] at hl; omega, e2⟩ ?_
          refine wg_eqN (eqL_tups _ _) ?_
          walk_at "STN"
          rw [ascT_sort]
          show D.bl _ = D.bl (!(tupsI ks).isEmpty && ((tupsI ks).all (pairB k) && _))
          rw [q, hd]; rfl
    | _ => cases q
  · refine ⟨fun _ => ?_, fun z => (nomatch z)⟩
    walk_at "STN"
    cases d with
    | tup _ => cases q
    | _ => rfl
end
end K10
/-! K10s: moves. -/
namespace K10
open PySem PySem.Spec PyProof.Rows L2 DN KB
local macro_rules | `(tactic| walk_at "STN") => `(tactic| (repeat (first | with_reducible refine ws_seq ?_ | with_reducible refine ws_asg ?_ | with_reducible refine ws_ret ?_ | with_reducible refine ws_if ?_ | with_reducible refine ws_next ?_ | with_reducible refine ws_retN ?_ | with_reducible refine ws_brk ?_ | with_reducible refine ws_cont ?_ | with_reducible refine ws_drop ?_ | with_reducible refine ws_setI ?_ | with_reducible refine ws_for ?_ | with_reducible refine ws_par ?_ | with_reducible refine ws_frz ?_ | with_reducible refine ws_parO ?_ | with_reducible refine ws_setOwn ?_ | with_reducible refine ⟨fun _ => ?_, fun z => absurd rfl z⟩ | refine And.intro rt_nx fun _ => ?_ | refine And.intro bk_nx fun _ => ?_ | refine And.intro ct_nx fun _ => ?_ | with_reducible refine w_c2 ?_ | with_reducible refine w_c1 ?_ | with_reducible refine w_cA ?_ | with_reducible refine w_cons ?_ | with_reducible refine w_nil ?_ | with_reducible refine w_c ?_ | with_reducible refine w_call ?_ | with_reducible refine w_it ?_ | with_reducible refine w_rng1 ?_ | with_reducible refine w_rng2 ?_ | with_reducible refine w_m0 ?_ | with_reducible refine w_m1 ?_ | with_reducible refine w_sl ?_ | with_reducible refine w_part ?_ | with_reducible refine w_noP ?_ | with_reducible refine w_b ?_ | with_reducible refine w_notB ?_ | with_reducible refine w_if ?_ | with_reducible refine w_chain ?_ | with_reducible refine w_zip ?_ | with_reducible refine w_enum ?_ | with_reducible refine wg_add ?_ | with_reducible refine wg_sub ?_ | with_reducible refine wg_neg ?_ | with_reducible refine wg_lt ?_ | with_reducible refine wg_le ?_ | with_reducible refine wg_gt ?_ | with_reducible refine wg_ge ?_ | with_reducible refine wg_not ?_ | with_reducible refine wg_lenL ?_ | with_reducible refine wg_lenT ?_ | with_reducible refine wg_lenC ?_ | with_reducible refine wg_int ?_ | with_reducible refine wg_intB ?_ | with_reducible refine wg_abs ?_ | with_reducible refine wg_max2 ?_ | with_reducible refine wg_min2 ?_ | with_reducible refine wg_reprB ?_ | with_reducible refine wg_itL ?_ | with_reducible refine wg_itT ?_ | with_reducible refine wg_itC ?_ | with_reducible refine wg_itS ?_ | with_reducible refine wg_slL ?_ | with_reducible refine wg_slT ?_ | with_reducible refine wg_tupleL ?_ | with_reducible refine wg_tupleT ?_ | with_reducible refine wg_listL ?_ | with_reducible refine wg_listT ?_ | with_reducible refine wg_revL ?_ | with_reducible refine wg_revT ?_ | with_reducible refine wg_zipT ?_ | with_reducible refine wg_allM ?_ | with_reducible refine wg_anyM ?_ | with_reducible refine w_var (by with_unfolding_all rfl) ?_ | with_reducible refine wg_mul (Or.inr (by decide)) ?_ | with_reducible refine wg_mul (Or.inl (by decide)) ?_ | with_reducible refine wg_mod (by decide +kernel) ?_ | with_reducible refine wg_fdiv (by decide) ?_ | with_reducible refine wg_pow (by decide +kernel) ?_ | with_reducible refine wg_tup (by simp; done) ?_ | with_reducible refine wg_lst (by simp; done) ?_ | with_reducible refine w_dieSet (by decide) ?_ | with_reducible refine w_dieAt (by decide) (fun _ => ?_) | refine ⟨_, rfl, ?_⟩ | refine ⟨rfl, ?_⟩ | with_reducible refine wg_ltI ?_ | with_reducible refine wg_mulAI (Or.inr (by decide)) ?_ | with_reducible refine wg_mulAI (Or.inl (by decide)) ?_ | with_reducible refine w_dieSetP (by decide) ?_ | with_reducible refine w_cF rfl ?_ | with_reducible refine wg_neEI ?_ | with_reducible refine wg_neEB ?_ | with_reducible refine wg_neL ?_ | with_reducible refine wg_neT ?_ | with_reducible refine wg_lenIT ?_ | with_reducible refine wg_lenIL ?_ | with_reducible refine wg_lenIC ?_ | with_reducible refine ws_match ?_ | with_reducible refine ws_parV ?_ | with_reducible refine w_dieAtP (by decide) (fun _ => ?_))))
def goB : List D → Bool
  | [c] => pairsB 5 c
  | _ => false
def cpB : List D → Bool
  | [n, m] => wordB n && setB 5 m
  | _ => false
def stepB (p : Int) : D → Bool
  | .tup (h :: a :: b :: r) => isNum p a && (if isS h "leave" = true then r.isEmpty && setB 5 b else isNum p b && (if isS h "go" = true then goB r else (isS h "call" || isS h "post") && cpB r))
  | _ => false
theorem step_eq (p : Int) (h a b : D) (r : List D) : stepB p (.tup (h :: a :: b :: r)) = (isNum p a && (if isS h "leave" = true then r.isEmpty && setB 5 b else isNum p b && (if isS h "go" = true then goB r else (isS h "call" || isS h "post") && cpB r))) := rfl
theorem if_f {α : Type} (a b : α) : (if false = true then a else b) = b := rfl
theorem if_t {α : Type} (a b : α) : (if true = true then a else b) = a := rfl
theorem mVal_eq {h : D} {z : Str} {i : Nat} (hk : kn h = some i) : mVal (.str z) h = some (if isS h z = true then some [] else none) := by
  unfold mVal
  rw [eqN_str hk]
  rfl
abbrev m4 : D → Mt := mSeq 4 (mCons (mVal (.str "go")) (mCons (mCap 2) (mCons (mCap 3) (mCons (mCap 4) mNil))))
abbrev m5 : D → Mt := mSeq 5 (mCons (mOr (mVal (.str "call")) (mVal (.str "post"))) (mCons (mCap 2) (mCons (mCap 3) (mCons (mCap 5) (mCons (mCap 6) mNil)))))
abbrev m3 : D → Mt := mSeq 3 (mCons (mVal (.str "leave")) (mCons (mCap 2) (mCons (mCap 6) mNil)))
theorem mSeq_ne {n : Nat} {ms : List D → Mt} {xs : List D} (h : xs.length ≠ n) : mSeq n ms (.tup xs) = some none := by
  unfold mSeq
  dsimp only
  rw [if_neg h]
theorem m4_at {h a b c : D} {i : Nat} (hk : kn h = some i) : m4 (.tup [h, a, b, c]) = some (if isS h "go" = true then some [(2, a), (3, b), (4, c)] else none) := by
  show (match mVal (.str "go") h with | none => none | some none => some none | some (some bs) => (mCons (mCap 2) (mCons (mCap 3) (mCons (mCap 4) mNil)) [a, b, c]).map fun (r : Option (List (Nat × D))) => r.map fun more => bs ++ more : Mt) = _
  rw [mVal_eq hk]
  cases isS h "go" <;> rfl
theorem m3_at {h a b : D} {i : Nat} (hk : kn h = some i) : m3 (.tup [h, a, b]) = some (if isS h "leave" = true then some [(2, a), (6, b)] else none) := by
  show (match mVal (.str "leave") h with | none => none | some none => some none | some (some bs) => (mCons (mCap 2) (mCons (mCap 6) mNil) [a, b]).map fun (r : Option (List (Nat × D))) => r.map fun more => bs ++ more : Mt) = _
  rw [mVal_eq hk]
  cases isS h "leave" <;> rfl
theorem m5_at {h a b c e : D} {i : Nat} (hk : kn h = some i) : m5 (.tup [h, a, b, c, e]) = some (if (isS h "call" || isS h "post") = true then some [(2, a), (3, b), (5, c), (6, e)] else none) := by
  show (match mOr (mVal (.str "call")) (mVal (.str "post")) h with | none => none | some none => some none | some (some bs) => (mCons (mCap 2) (mCons (mCap 3) (mCons (mCap 5) (mCons (mCap 6) mNil))) [a, b, c, e]).map fun (r : Option (List (Nat × D))) => r.map fun more => bs ++ more : Mt) = _
  have e : mOr (mVal (.str "call")) (mVal (.str "post")) h = some (if (isS h "call" || isS h "post") = true then some [] else none) := by
    unfold mOr
    rw [mVal_eq hk, mVal_eq hk]
    cases isS h "call" <;> cases isS h "post" <;> rfl
  rw [e]
  cases isS h "call" <;> cases isS h "post" <;> rfl
theorem isS_uni {h : D} {z w : Str} (h1 : isS h z = true) (h2 : isS h w = true) : z = w := by
  cases h with
  | str x => rw [beq_iff_eq.mp h1, beq_iff_eq.mp h2]
  | _ => cases h1
section
variable {I : Store → Prop} {X : XP} {d : D}
theorem bl3 {a b c : Bool} {P : D → Prop} (e : a = b) (h : P (.bl b)) : P (.bl a) := e ▸ h
theorem w_move {p : Int} (h : finD 4 d = true) : Wp I (F_is_move [d, .int p]) (fun r => r = .bl (stepB p d)) X := by
  refine w_def rfl ?_
  unfold b_is_move
  walk_at "STN"
  refine wg_isTuple (fin_ty h) ?_
  walk_at "STN"
  refine ⟨fun q => ?_, fun q => ?_⟩
  · walk_at "STN"
    cases d with
    | tup _ => cases q
    | _ => rfl
  · cases d with
    | tup xs =>
      obtain ⟨hl, hx⟩ := fin_tup.mp h
      walk_at "STN"
      have none_ : ∀ {PS : Fl → DN.Env → Prop} {b4 b5 b3 : Sm} {ρ : DN.Env}, xs.length ≠ 3 → xs.length ≠ 4 → xs.length ≠ 5 → PS .nx ρ → Ws I (kCons m4 b4 (kCons m5 b5 (kCons m3 b3 kNil)) (.tup xs) ρ) PS X := fun h3 h4 h5 q => ws_kNo (mSeq_ne h4) (ws_kNo (mSeq_ne h5) (ws_kNo (mSeq_ne h3) (ws_next q)))
      match xs, hl, hx with
      | [], _, _ =>
        refine none_ (by simp) (by simp) (by simp) ?_
        walk_at "STN"
        rfl
      | [_], _, _ =>
        refine none_ (by simp) (by simp) (by simp) ?_
        walk_at "STN"
        rfl
      | [_, _], _, _ =>
        refine none_ (by simp) (by simp) (by simp) ?_
        walk_at "STN"
        rfl
      | [h, a, b], _, hx =>
        obtain ⟨i, hk⟩ := (fin_kn (hx h (by simp))).2
        have fa := hx a (by simp)
        have fb := hx b (by simp)
        refine ws_kNo (mSeq_ne (by simp)) (ws_kNo (mSeq_ne (by simp)) ?_)
        have e3 := m3_at (a := a) (b := b) hk
        cases q1 : isS h "leave" with
        | false =>
          rw [q1] at e3
          refine ws_kNo e3 (ws_next ?_)
          walk_at "STN"
          rw [step_eq]
          rw [q1]
          cases isS h "go" <;> simp [goB, cpB]
        | true =>
          rw [q1] at e3
          refine ws_kYes e3 ?_
          walk_at "STN"
          refine w_andV ?_
          walk_at "STN"
          refine (w_below (fin_ty fa)).imp (fun r hr => ?_) fun _ _ x => x
          subst hr
          refine ⟨_, rfl, fun u => ?_, fun u => ?_⟩
          · walk_at "STN"
            refine (w_mode_set (n := 2) fb).imp (fun r hr => ?_) fun _ _ x => x
            subst hr
            walk_at "STN"
            rw [step_eq, q1, u]; rfl
          · walk_at "STN"
            rw [step_eq, u]; rfl
      | [h, a, b, c], _, hx =>
        obtain ⟨i, hk⟩ := (fin_kn (hx h (by simp))).2
        have fa := hx a (by simp)
        have fb := hx b (by simp)
        have fc := hx c (by simp)
        have e4 := m4_at (a := a) (b := b) (c := c) hk
        cases q1 : isS h "go" with
        | false =>
          rw [q1] at e4
          refine ws_kNo e4 (ws_kNo (mSeq_ne (by simp)) (ws_kNo (mSeq_ne (by simp)) (ws_next ?_)))
          walk_at "STN"
          rw [step_eq]
          rw [q1]
          cases isS h "leave" <;> simp [goB, cpB]
        | true =>
          rw [q1] at e4
          have q2 : isS h "leave" = false := by
            cases q2 : isS h "leave" with
            | false => rfl
            | true => exact absurd (isS_uni q1 q2) (by decide +kernel)
          refine ws_kYes e4 ?_
          walk_at "STN"
          refine w_andV ?_
          walk_at "STN"
          refine (w_below (fin_ty fa)).imp (fun r hr => ?_) fun _ _ x => x
          subst hr
          refine ⟨_, rfl, fun u => ?_, fun u => ?_⟩
          · refine w_andV ?_
            walk_at "STN"
            refine (w_below (fin_ty fb)).imp (fun r hr => ?_) fun _ _ x => x
            subst hr
            refine ⟨_, rfl, fun v => ?_, fun v => ?_⟩
            · walk_at "STN"
              refine (w_are_pairs (n := 1) fc).imp (fun r hr => ?_) fun _ _ x => x
              subst hr
              walk_at "STN"
              rw [step_eq, q1, q2, u, v]; rfl
            · walk_at "STN"
              rw [step_eq, q2, v, if_f, Bool.false_and, Bool.and_false]
          · walk_at "STN"
            rw [step_eq, u]; rfl
      | [h, a, b, c, e], _, hx =>
        obtain ⟨i, hk⟩ := (fin_kn (hx h (by simp))).2
        have fa := hx a (by simp)
        have fb := hx b (by simp)
        have fc := hx c (by simp)
        have fe := hx e (by simp)
        have e5 := m5_at (a := a) (b := b) (c := c) (e := e) hk
        refine ws_kNo (mSeq_ne (by simp)) ?_
        cases q1 : (isS h "call" || isS h "post") with
        | false =>
          rw [q1] at e5
          refine ws_kNo e5 (ws_kNo (mSeq_ne (by simp)) (ws_next ?_))
          walk_at "STN"
          rw [step_eq]
          rw [q1]
          cases isS h "leave" <;> cases isS h "go" <;> simp [goB, cpB]
        | true =>
          rw [q1] at e5
          have q2 : isS h "leave" = false := by
            cases q2 : isS h "leave" with
            | false => rfl
            | true =>
              rcases Bool.or_eq_true_iff.mp q1 with q3 | q3
              · exact absurd (isS_uni q3 q2) (by decide +kernel)
              · exact absurd (isS_uni q3 q2) (by decide +kernel)
          have q4 : isS h "go" = false := by
            cases q2 : isS h "go" with
            | false => rfl
            | true =>
              rcases Bool.or_eq_true_iff.mp q1 with q3 | q3
              · exact absurd (isS_uni q3 q2) (by decide +kernel)
              · exact absurd (isS_uni q3 q2) (by decide +kernel)
          have key : stepB p (.tup [h, a, b, c, e]) = (isNum p a && (isNum p b && (wordB c && setB 5 e))) := by
            rw [step_eq, q2, q4, q1]; rfl
          rw [key]
          refine ws_kYes e5 ?_
          walk_at "STN"
          refine w_orB ?_
          walk_at "STN"
          refine (w_below (fin_ty fa)).imp (fun r hr => ?_) fun _ _ x => x
          subst hr
          refine ⟨_, rfl, fun u => ?_, fun u => ?_⟩
          · have u : isNum p a = true := by
              cases q5 : isNum p a with
              | true => rfl
              | false => rw [q5] at u; cases u
            refine w_orB ?_
            walk_at "STN"
            refine (w_below (fin_ty fb)).imp (fun r hr => ?_) fun _ _ x => x
            subst hr
            refine ⟨_, rfl, fun v => ?_, fun v => ?_⟩
            · have v : isNum p b = true := by
                cases q5 : isNum p b with
                | true => rfl
                | false => rw [q5] at v; cases v
              walk_at "STN"
              refine (w_name fc).imp (fun r hr => ?_) fun _ _ x => x
              subst hr
              refine ⟨_, rfl, fun w => ?_, fun w => ?_⟩
              · have w : wordB c = false := by
                  cases q5 : wordB c with
                  | false => rfl
                  | true => rw [q5] at w; cases w
                walk_at "STN"
                rw [u, v, w]; rfl
              · have w : wordB c = true := by
                  cases q5 : wordB c with
                  | true => rfl
                  | false => rw [q5] at w; cases w
                walk_at "STN"
                refine (w_mode_set (n := 2) fe).imp (fun r hr => ?_) fun _ _ x => x
                subst hr
                walk_at "STN"
                rw [u, v, w]; rfl
            · have v : isNum p b = false := by
                cases q5 : isNum p b with
                | false => rfl
                | true => rw [q5] at v; cases v
              refine ⟨fun _ => ?_, fun z => (nomatch z)⟩
              walk_at "STN"
              rw [v, Bool.false_and, Bool.and_false]
          · have u : isNum p a = false := by
              cases q5 : isNum p a with
              | false => rfl
              | true => rw [q5] at u; cases u
            refine ⟨fun _ => ?_, fun z => (nomatch z)⟩
            walk_at "STN"
            rw [u]; rfl
      | h :: a :: b :: c :: e :: f :: r, _, _ =>
        refine none_ (by simp) (by simp) (by simp) ?_
        walk_at "STN"
        rw [step_eq]
        cases isS h "leave" <;> cases isS h "go" <;> simp [goB, cpB]
    | _ => cases q
end
end K10
/-! K10t: the law's own look at a move; due. -/
namespace K10
open PySem PySem.Spec PyProof.Rows L2 DN KB
local macro_rules | `(tactic| walk_at "STN") => `(tactic| (repeat (first | with_reducible refine ws_seq ?_ | with_reducible refine ws_asg ?_ | with_reducible refine ws_ret ?_ | with_reducible refine ws_if ?_ | with_reducible refine ws_next ?_ | with_reducible refine ws_retN ?_ | with_reducible refine ws_brk ?_ | with_reducible refine ws_cont ?_ | with_reducible refine ws_drop ?_ | with_reducible refine ws_setI ?_ | with_reducible refine ws_for ?_ | with_reducible refine ws_par ?_ | with_reducible refine ws_frz ?_ | with_reducible refine ws_parO ?_ | with_reducible refine ws_setOwn ?_ | with_reducible refine ⟨fun _ => ?_, fun z => absurd rfl z⟩ | refine And.intro rt_nx fun _ => ?_ | refine And.intro bk_nx fun _ => ?_ | refine And.intro ct_nx fun _ => ?_ | with_reducible refine w_c2 ?_ | with_reducible refine w_c1 ?_ | with_reducible refine w_cA ?_ | with_reducible refine w_cons ?_ | with_reducible refine w_nil ?_ | with_reducible refine w_c ?_ | with_reducible refine w_call ?_ | with_reducible refine w_it ?_ | with_reducible refine w_rng1 ?_ | with_reducible refine w_rng2 ?_ | with_reducible refine w_m0 ?_ | with_reducible refine w_m1 ?_ | with_reducible refine w_sl ?_ | with_reducible refine w_part ?_ | with_reducible refine w_noP ?_ | with_reducible refine w_b ?_ | with_reducible refine w_notB ?_ | with_reducible refine w_if ?_ | with_reducible refine w_chain ?_ | with_reducible refine w_zip ?_ | with_reducible refine w_enum ?_ | with_reducible refine wg_add ?_ | with_reducible refine wg_sub ?_ | with_reducible refine wg_neg ?_ | with_reducible refine wg_lt ?_ | with_reducible refine wg_le ?_ | with_reducible refine wg_gt ?_ | with_reducible refine wg_ge ?_ | with_reducible refine wg_not ?_ | with_reducible refine wg_lenL ?_ | with_reducible refine wg_lenT ?_ | with_reducible refine wg_lenC ?_ | with_reducible refine wg_int ?_ | with_reducible refine wg_intB ?_ | with_reducible refine wg_abs ?_ | with_reducible refine wg_max2 ?_ | with_reducible refine wg_min2 ?_ | with_reducible refine wg_reprB ?_ | with_reducible refine wg_itL ?_ | with_reducible refine wg_itT ?_ | with_reducible refine wg_itC ?_ | with_reducible refine wg_itS ?_ | with_reducible refine wg_slL ?_ | with_reducible refine wg_slT ?_ | with_reducible refine wg_tupleL ?_ | with_reducible refine wg_tupleT ?_ | with_reducible refine wg_listL ?_ | with_reducible refine wg_listT ?_ | with_reducible refine wg_revL ?_ | with_reducible refine wg_revT ?_ | with_reducible refine wg_zipT ?_ | with_reducible refine wg_allM ?_ | with_reducible refine wg_anyM ?_ | with_reducible refine w_var (by with_unfolding_all rfl) ?_ | with_reducible refine wg_mul (Or.inr (by decide)) ?_ | with_reducible refine wg_mul (Or.inl (by decide)) ?_ | with_reducible refine wg_mod (by decide +kernel) ?_ | with_reducible refine wg_fdiv (by decide) ?_ | with_reducible refine wg_pow (by decide +kernel) ?_ | with_reducible refine wg_tup (by simp; done) ?_ | with_reducible refine wg_lst (by simp; done) ?_ | with_reducible refine w_dieSet (by decide) ?_ | with_reducible refine w_dieAt (by decide) (fun _ => ?_) | refine ⟨_, rfl, ?_⟩ | refine ⟨rfl, ?_⟩ | with_reducible refine wg_ltI ?_ | with_reducible refine wg_mulAI (Or.inr (by decide)) ?_ | with_reducible refine wg_mulAI (Or.inl (by decide)) ?_ | with_reducible refine w_dieSetP (by decide) ?_ | with_reducible refine w_cF rfl ?_ | with_reducible refine wg_neEI ?_ | with_reducible refine wg_neEB ?_ | with_reducible refine wg_neL ?_ | with_reducible refine wg_neT ?_ | with_reducible refine wg_lenIT ?_ | with_reducible refine wg_lenIL ?_ | with_reducible refine wg_lenIC ?_ | with_reducible refine ws_match ?_ | with_reducible refine ws_parV ?_ | with_reducible refine w_dieAtP (by decide) (fun _ => ?_))))
theorem bl_ff {b : Bool} (h : (!b) = true) : b = false := by cases b with | false => rfl | true => cases h
theorem bl_tt {b : Bool} (h : (!b) = false) : b = true := by cases b with | true => rfl | false => cases h
section
variable {I : Store → Prop} {X : XP} {d : D}
theorem w_step {p : Int} (h : finD 4 d = true) : Wp I (F_law_is_step [d, .int p, .int 5]) (fun r => r = .bl (stepB p d)) X := by
  refine w_def rfl ?_
  unfold b_law_is_step
  walk_at "STN"
  refine w_orB ?_
  walk_at "STN"
  refine wg_isTuple (fin_ty h) ?_
  walk_at "STN"
  refine ⟨fun q => ?_, fun q => ?_⟩
  · cases d with
    | tup xs =>
      obtain ⟨hl, hx⟩ := fin_tup.mp h
      refine w_orB ?_
      walk_at "STN"
      refine ⟨fun q => ?_, fun q => ?_⟩
      · have hl3 : 3 ≤ xs.length := by
          have := of_decide_eq_false q
          omega
        match xs, hl3, hl, hx with
        | h :: a :: b :: r, _, hl, hx =>
          have hl : r.length ≤ 3 := by simp only [List.length_cons] at hl; have : bnd 3 = 6 := rfl; omega
          obtain ⟨i, hk⟩ := (fin_kn (hx h (by simp))).2
          have fa := hx a (by simp)
          have fb := hx b (by simp)
          have i0 : atI (h :: a :: b :: r) 0 = some h := atI_nat (k := 0) rfl (by simp)
          have i1 : atI (h :: a :: b :: r) 1 = some a := atI_nat (k := 1) rfl (by simp)
          have i2 : atI (h :: a :: b :: r) 2 = some b := atI_nat (k := 2) rfl (by simp)
          walk_at "STN"
          refine wg_ixT i1 ?_
          walk_at "STN"
          refine (w_number (fin_ty fa)).imp (fun r hr => ?_) fun _ _ x => x
          subst hr
          walk_at "STN"
          rw [step_eq]
          refine ⟨fun u => ?_, fun u => ?_⟩
          · have u := bl_ff u
            walk_at "STN"
            rw [u]; rfl
          · have u := bl_tt u
            rw [u, Bool.true_and]
            walk_at "STN"
            refine wg_ixT i0 ?_
            walk_at "STN"
            refine wg_eqN (eqN_str hk) ?_
            walk_at "STN"
            refine ⟨fun q1 => ?_, fun q1 => ?_⟩
            · rw [q1, if_t]
              refine ws_ret (w_andV ?_)
              walk_at "STN"
              refine wg_eqN (eqN_int _ _) ?_
              refine ⟨_, rfl, fun v => ?_, fun v => ?_⟩
              · have hr : r = [] := by
                  rw [beq_iff_eq] at v
                  simp only [List.length_cons] at v
                  exact List.eq_nil_of_length_eq_zero (by omega)
                subst hr
                walk_at "STN"
                refine wg_ixT i2 ?_
                walk_at "STN"
                refine (w_law_set (n := 2) fb).imp (fun r hr => ?_) fun _ _ x => x
                subst hr
                walk_at "STN"
                rfl
              · have hr : r.isEmpty = false := by
                  cases r with
                  | nil => cases v
                  | cons _ _ => rfl
                rw [hr]
                walk_at "STN"
                rfl
            · rw [q1, if_f]
              walk_at "STN"
              refine wg_ixT i2 ?_
              walk_at "STN"
              refine (w_number (fin_ty fb)).imp (fun r hr => ?_) fun _ _ x => x
              subst hr
              walk_at "STN"
              refine ⟨fun u => ?_, fun u => ?_⟩
              · have u := bl_ff u
                rw [u]
                walk_at "STN"
                rfl
              · have u := bl_tt u
                rw [u, Bool.true_and]
                walk_at "STN"
                refine wg_ixT i0 ?_
                walk_at "STN"
                refine wg_eqN (eqN_str hk) ?_
                walk_at "STN"
                refine ⟨fun q2 => ?_, fun q2 => ?_⟩
                · rw [q2, if_t]
                  refine ws_ret (w_andV ?_)
                  walk_at "STN"
                  refine wg_eqN (eqN_int _ _) ?_
                  refine ⟨_, rfl, fun v => ?_, fun v => ?_⟩
                  · have hr : r.length = 1 := by
                      rw [beq_iff_eq] at v
                      simp only [List.length_cons] at v
                      omega
                    match r, hr, hx with
                    | [c], _, hx =>
                      have fc := hx c (by simp)
                      walk_at "STN"
                      refine wg_ixT (d := c) rfl ?_
                      walk_at "STN"
                      refine (w_law_pairs (n := 1) fc).imp (fun r hr => ?_) fun _ _ x => x
                      subst hr
                      walk_at "STN"
                      rfl
                  · have hr : goB r = false := by
                      match r, v with
                      | [], _ => rfl
                      | [_], v => cases v
                      | _ :: _ :: _, _ => rfl
                    rw [hr]
                    walk_at "STN"
                    rfl
                · rw [q2, if_f]
                  walk_at "STN"
                  refine w_orB ?_
                  walk_at "STN"
                  refine wg_ixT i0 ?_
                  walk_at "STN"
                  have hin : inS h (.tup [.str "call", .str "post"]) = some (isS h "call" || isS h "post") := by
                    unfold inS
                    dsimp only
                    rw [show strsD [.str "call", .str "post"] = some [("call" : Str), "post"] from rfl, hk]
                    show some (isS h "call" || (isS h "post" || false)) = _
                    rw [Bool.or_false]
                  refine wg_notInS hin ?_
                  refine ⟨_, rfl, fun v => ?_, fun v => ?_⟩
                  · have v := bl_tt v
                    rw [v, Bool.true_and]
                    walk_at "STN"
                    refine ⟨fun w => ?_, fun w => ?_⟩
                    · have w := bl_ff w
                      have w := of_decide_eq_false w
                      have hr : cpB r = false := by
                        match r, w with
                        | [], _ => rfl
                        | [_], _ => rfl
                        | [_, _], w => exact absurd rfl w
                        | _ :: _ :: _ :: _, _ => rfl
                      rw [hr]
                      walk_at "STN"
                      rfl
                    · have w := bl_tt w
                      have w := of_decide_eq_true w
                      have hr : r.length = 2 := by
                        simp only [List.length_cons] at w
                        omega
                      match r, hr, hx with
                      | [c, e], _, hx =>
                        have fc := hx c (by simp)
                        have fe := hx e (by simp)
                        walk_at "STN"
                        refine w_andV ?_
                        walk_at "STN"
                        refine wg_ixT (d := c) rfl ?_
                        walk_at "STN"
                        refine (w_word fc).imp (fun r hr => ?_) fun _ _ x => x
                        subst hr
                        refine ⟨_, rfl, fun a1 => ?_, fun a1 => ?_⟩
                        · walk_at "STN"
                          refine wg_ixT (d := e) rfl ?_
                          walk_at "STN"
                          refine (w_law_set (n := 2) fe).imp (fun r hr => ?_) fun _ _ x => x
                          subst hr
                          show D.bl _ = D.bl (wordB c && setB 5 e)
                          rw [a1]; rfl
                        · show D.bl false = D.bl (wordB c && setB 5 e)
                          rw [a1]; rfl
                  · have v := bl_ff v
                    rw [v, Bool.false_and]
                    refine ⟨fun _ => ?_, fun z => (nomatch z)⟩
                    walk_at "STN"
                    rfl
      · refine ⟨fun _ => ?_, fun z => (nomatch z)⟩
        walk_at "STN"
        have := of_decide_eq_true q
        match xs, this with
        | [], _ => rfl
        | [_], _ => rfl
        | [_, _], _ => rfl
        | _ :: _ :: _ :: r, hl3 => simp only [List.length_cons] at hl3; omega
    | _ => cases q
  · refine ⟨fun _ => ?_, fun z => (nomatch z)⟩
    walk_at "STN"
    cases d with
    | tup _ => cases q
    | _ => rfl
def ptB : D → Bool
  | .int i => decide (0 ≤ i) && decide (i < 7) && !(i == 0)
  | _ => false
def mvB (p : Int) : D → Bool
  | .tup ms => decide (ms.length ≤ 12) && ms.all (stepB p)
  | _ => false
def dueB (c : D) : D → D → Bool
  | .int p, m => wordB c && (ptB (.int p) && mvB p m)
  | _, _ => false
theorem w_due {c q m : D} (hc : finD 5 c = true) (hq : finD 5 q = true) (hm : finD 5 m = true) : Wp I (F_law_is_due [c, q, m]) (fun r => r = .bl (dueB c q m)) X := by
  refine w_def rfl ?_
  unfold b_law_is_due
  walk_at "STN"
  refine w_orB ?_
  walk_at "STN"
  refine (w_word hc).imp (fun r hr => ?_) fun _ _ x => x
  subst hr
  walk_at "STN"
  refine ⟨fun u => ?_, fun u => ?_⟩
  · have u := bl_tt u
    refine w_orB ?_
    walk_at "STN"
    refine (w_number (fin_ty hq)).imp (fun r hr => ?_) fun _ _ x => x
    subst hr
    walk_at "STN"
    refine ⟨fun v => ?_, fun v => ?_⟩
    · have v := bl_tt v
      cases q with
      | int p =>
        walk_at "STN"
        refine wg_eqN (eqN_int _ _) ?_
        walk_at "STN"
        refine ⟨fun w => ?_, fun w => ?_⟩
        · walk_at "STN"
          show D.bl false = D.bl (wordB c && ((decide (0 ≤ p) && decide (p < 7) && !(p == 0)) && mvB p m))
          rw [w]; simp
        · walk_at "STN"
          have key : dueB c (.int p) m = mvB p m := by
            show (wordB c && ((decide (0 ≤ p) && decide (p < 7) && !(p == 0)) && mvB p m)) = _
            have v : (decide (0 ≤ p) && decide (p < 7)) = true := v
            rw [u, v, w]; rfl
          rw [key]
          refine w_orB ?_
          walk_at "STN"
          refine wg_isTuple (fin_ty hm) ?_
          walk_at "STN"
          refine ⟨fun a => ?_, fun a => ?_⟩
          · cases m with
            | tup ms =>
              obtain ⟨hl, hx⟩ := fin_tup.mp hm
              have hl := Nat.le_trans hl (bnd40 _)
              walk_at "STN"
              refine ⟨fun b => ?_, fun b => ?_⟩
              · walk_at "STN"
                show D.bl false = D.bl (decide (ms.length ≤ 12) && ms.all (stepB p))
                have b := of_decide_eq_true b
                rw [decide_eq_false (by omega)]; rfl
              · have b := of_decide_eq_false b
                walk_at "STN"
                refine w_compF (fun d => !stepB p d) (fun d => d) ?_
                walk_at "STN"
                refine ⟨by omega, fun x hxx => ⟨_, rfl, ?_⟩, ?_⟩
                · walk_at "STN"
                  refine (w_step (hx x hxx)).imp (fun r hr => ?_) fun _ _ x => x
                  subst hr
                  refine ⟨_, rfl, rfl, fun _ => ?_⟩
                  walk_at "STN"
                  rfl
                · rw [List.map_id']
                  walk_at "STN"
                  refine wg_eqN (eqN_lnil _) ?_
                  show D.bl _ = D.bl (decide (ms.length ≤ 12) && ms.all (stepB p))
                  rw [decide_eq_true (show ms.length ≤ 12 by omega), Bool.true_and]
                  congr 1
                  rw [Bool.eq_iff_iff, List.isEmpty_iff, List.filter_eq_nil_iff, List.all_eq_true]
                  refine ⟨fun h x hx => ?_, fun h x hx => by rw [h x hx]; decide⟩
                  have := h x hx
                  cases q2 : stepB p x with
                  | true => rfl
                  | false => rw [q2] at this; exact absurd rfl this
            | _ => cases a
          · refine ⟨fun _ => ?_, fun z => (nomatch z)⟩
            walk_at "STN"
            cases m with
            | tup _ => cases a
            | _ => rfl
      | _ => cases v
    · refine ⟨fun _ => ?_, fun z => (nomatch z)⟩
      have v := bl_ff v
      walk_at "STN"
      cases q with
      | int p =>
        show D.bl false = D.bl (wordB c && ((decide (0 ≤ p) && decide (p < 7) && !(p == 0)) && mvB p m))
        have v : (decide (0 ≤ p) && decide (p < 7)) = false := v
        rw [v, Bool.false_and, Bool.false_and, Bool.and_false]
      | _ => rfl
  · have u := bl_ff u
    refine ⟨fun _ => ?_, fun z => (nomatch z)⟩
    walk_at "STN"
    cases q with
    | int p =>
      show D.bl false = D.bl (wordB c && _)
      rw [u]; rfl
    | _ => rfl
end
end K10
/-! K10u: procedures made, told, compared. -/
namespace K10
open PySem PySem.Spec PyProof.Rows L2 DN KB
local macro_rules | `(tactic| walk_at "STN") => `(tactic| (repeat (first | with_reducible refine ws_seq ?_ | with_reducible refine ws_asg ?_ | with_reducible refine ws_ret ?_ | with_reducible refine ws_if ?_ | with_reducible refine ws_next ?_ | with_reducible refine ws_retN ?_ | with_reducible refine ws_brk ?_ | with_reducible refine ws_cont ?_ | with_reducible refine ws_drop ?_ | with_reducible refine ws_setI ?_ | with_reducible refine ws_for ?_ | with_reducible refine ws_par ?_ | with_reducible refine ws_frz ?_ | with_reducible refine ws_parO ?_ | with_reducible refine ws_setOwn ?_ | with_reducible refine ⟨fun _ => ?_, fun z => absurd rfl z⟩ | refine And.intro rt_nx fun _ => ?_ | refine And.intro bk_nx fun _ => ?_ | refine And.intro ct_nx fun _ => ?_ | with_reducible refine w_c2 ?_ | with_reducible refine w_c1 ?_ | with_reducible refine w_cA ?_ | with_reducible refine w_cons ?_ | with_reducible refine w_nil ?_ | with_reducible refine w_c ?_ | with_reducible refine w_call ?_ | with_reducible refine w_it ?_ | with_reducible refine w_rng1 ?_ | with_reducible refine w_rng2 ?_ | with_reducible refine w_m0 ?_ | with_reducible refine w_m1 ?_ | with_reducible refine w_sl ?_ | with_reducible refine w_part ?_ | with_reducible refine w_noP ?_ | with_reducible refine w_b ?_ | with_reducible refine w_notB ?_ | with_reducible refine w_if ?_ | with_reducible refine w_chain ?_ | with_reducible refine w_zip ?_ | with_reducible refine w_enum ?_ | with_reducible refine wg_add ?_ | with_reducible refine wg_sub ?_ | with_reducible refine wg_neg ?_ | with_reducible refine wg_lt ?_ | with_reducible refine wg_le ?_ | with_reducible refine wg_gt ?_ | with_reducible refine wg_ge ?_ | with_reducible refine wg_not ?_ | with_reducible refine wg_lenL ?_ | with_reducible refine wg_lenT ?_ | with_reducible refine wg_lenC ?_ | with_reducible refine wg_int ?_ | with_reducible refine wg_intB ?_ | with_reducible refine wg_abs ?_ | with_reducible refine wg_max2 ?_ | with_reducible refine wg_min2 ?_ | with_reducible refine wg_reprB ?_ | with_reducible refine wg_itL ?_ | with_reducible refine wg_itT ?_ | with_reducible refine wg_itC ?_ | with_reducible refine wg_itS ?_ | with_reducible refine wg_slL ?_ | with_reducible refine wg_slT ?_ | with_reducible refine wg_tupleL ?_ | with_reducible refine wg_tupleT ?_ | with_reducible refine wg_listL ?_ | with_reducible refine wg_listT ?_ | with_reducible refine wg_revL ?_ | with_reducible refine wg_revT ?_ | with_reducible refine wg_zipT ?_ | with_reducible refine wg_allM ?_ | with_reducible refine wg_anyM ?_ | with_reducible refine w_var (by with_unfolding_all rfl) ?_ | with_reducible refine wg_mul (Or.inr (by decide)) ?_ | with_reducible refine wg_mul (Or.inl (by decide)) ?_ | with_reducible refine wg_mod (by decide +kernel) ?_ | with_reducible refine wg_fdiv (by decide) ?_ | with_reducible refine wg_pow (by decide +kernel) ?_ | with_reducible refine wg_tup (by simp; done) ?_ | with_reducible refine wg_lst (by simp; done) ?_ | with_reducible refine w_dieSet (by decide) ?_ | with_reducible refine w_dieAt (by decide) (fun _ => ?_) | refine ⟨_, rfl, ?_⟩ | refine ⟨rfl, ?_⟩ | with_reducible refine wg_ltI ?_ | with_reducible refine wg_mulAI (Or.inr (by decide)) ?_ | with_reducible refine wg_mulAI (Or.inl (by decide)) ?_ | with_reducible refine w_dieSetP (by decide) ?_ | with_reducible refine w_cF rfl ?_ | with_reducible refine wg_neEI ?_ | with_reducible refine wg_neEB ?_ | with_reducible refine wg_neL ?_ | with_reducible refine wg_neT ?_ | with_reducible refine wg_lenIT ?_ | with_reducible refine wg_lenIL ?_ | with_reducible refine wg_lenIC ?_ | with_reducible refine ws_match ?_ | with_reducible refine ws_parV ?_ | with_reducible refine w_dieAtP (by decide) (fun _ => ?_))))
def procD (c q : D) (ms : List D) : D := .ins "Procedure" [("own_name", c), ("own_points", q), ("own_moves", .tup ms)]
theorem set_last {α : Type} (x y : α) : ∀ S : List α, (S ++ [x]).set S.length y = S ++ [y]
  | [] => rfl
  | a :: S => by
    show a :: ((S ++ [x]).set S.length y) = a :: (S ++ [y])
    rw [set_last x y S]
def okP : D → Bool
  | .int p => decide (0 < p) && decide (p ≤ 6)
  | _ => false
def intO : D → Int
  | .int p => p
  | _ => 0
theorem due_eq (c q : D) (ms : List D) : dueB c q (.tup ms) = (wordB c && (okP q && (decide (ms.length ≤ 12) && ms.all (stepB (intO q))))) := by
  cases q with
  | int p =>
    show (wordB c && ((decide (0 ≤ p) && decide (p < 7) && !(p == 0)) && _)) = (wordB c && ((decide (0 < p) && decide (p ≤ 6)) && _))
    have : (decide (0 ≤ p) && decide (p < 7) && !(p == 0)) = (decide (0 < p) && decide (p ≤ 6)) := by
      rw [Bool.eq_iff_iff]
      simp
      omega
    rw [this]
    rfl
  | _ =>
    show false = (wordB c && (false && _))
    rw [Bool.false_and, Bool.and_false]
section
variable {I : Store → Prop} {X : XP}
abbrev IP : Str := "InvalidProgram"
theorem ws_chk1 {ρ : DN.Env} {c q : D} {n : Nat} {ms : List D} (hρ : ρ = [.val (.mut n), .val c, .val q, .val (.tup ms), .un]) (hc : finD 5 c = true) (hq : finD 5 q = true) :
    Ws I ((cIfS (cOrB (cNotB (cB (cCall 1 F_is_name (cCons (cVar 1) (cNil))))) (cOrB (cNotB (cB (cCall 1 F_is_integer (cCons (cVar 2) (cNil))))) (cNotB (cB (cChain gLtT gLe (cC (.int 0)) (cVar 2) (cC (.int (6)))))))) (cRaise "InvalidProgram") (cNext)) ρ)
      (fun fl ρ' => fl = .nx ∧ ρ' = ρ ∧ (wordB c && okP q) = true) (fun c0 fs => c0 = IP ∧ fs = [] ∧ (wordB c && okP q) = false) := by
  subst hρ
  walk_at "STN"
  refine w_orB ?_
  walk_at "STN"
  refine (w_name hc).imp (fun r hr => ?_) fun _ _ x => x
  subst hr
  walk_at "STN"
  refine ⟨fun u => ?_, fun u => ?_⟩
  · have u := bl_tt u
    rw [u, Bool.true_and]
    refine w_orB ?_
    walk_at "STN"
    refine (w_integer (fin_ty hq)).imp (fun r hr => ?_) fun _ _ x => x
    subst hr
    walk_at "STN"
    refine ⟨fun v => ?_, fun v => ?_⟩
    · have v := bl_tt v
      cases q with
      | int p =>
        walk_at "STN"
        refine ⟨fun w => ?_, fun w => ?_⟩
        · walk_at "STN"
          refine ⟨fun a => ?_, fun a => ?_⟩
          · refine ws_raise ⟨rfl, rfl, ?_⟩
            show (decide (0 < p) && decide (p ≤ 6)) = false
            rw [w, bl_ff a]; rfl
          · refine ws_next ⟨rfl, rfl, ?_⟩
            show (decide (0 < p) && decide (p ≤ 6)) = true
            rw [w, bl_tt a]; rfl
        · refine ⟨_, rfl, fun _ => ?_, fun z => (nomatch z)⟩
          refine ws_raise ⟨rfl, rfl, ?_⟩
          show (decide (0 < p) && decide (p ≤ 6)) = false
          rw [w]; rfl
      | _ => cases v
    · refine ⟨fun _ => ?_, fun z => (nomatch z)⟩
      refine ws_raise ⟨rfl, rfl, ?_⟩
      cases q with
      | int _ => cases v
      | _ => rfl
  · have u := bl_ff u
    refine ⟨fun _ => ?_, fun z => (nomatch z)⟩
    exact ws_raise ⟨rfl, rfl, by rw [u]; rfl⟩
theorem ws_chk2 {ρ : DN.Env} {c : D} {p : Int} {n : Nat} {ms : List D} (hρ : ρ = [.val (.mut n), .val c, .val (.int p), .val (.tup ms), .un]) (hm : finD 5 (.tup ms) = true) :
    Ws I ((cIfS (cOrB (cB (c2 gGt (cA gLen (cCons (cVar 3) (cNil))) (cC (.int (12))))) (cNotB (cB (cA gAll (cCons (cComp (cIt (cVar 3)) (bName 4) (cYes) (cCall 2 F_is_move (cCons (cVar 4) (cCons (cVar 2) (cNil)))) [4]) (cNil)))))) (cRaise "InvalidProgram") (cNext)) ρ)
      (fun fl ρ' => fl = .nx ∧ ρ' = ρ ∧ (decide (ms.length ≤ 12) && ms.all (stepB p)) = true) (fun c0 fs => c0 = IP ∧ fs = [] ∧ (decide (ms.length ≤ 12) && ms.all (stepB p)) = false) := by
  subst hρ
  obtain ⟨hl, hx⟩ := fin_tup.mp hm
  have hl := Nat.le_trans hl (bnd40 _)
  refine ws_if (w_orB ?_)
  walk_at "STN"
  refine ⟨fun b => ?_, fun b => ?_⟩
  · have b := of_decide_eq_false b
    have e : decide (ms.length ≤ 12) = true := decide_eq_true (by omega)
    rw [e, Bool.true_and]
    refine w_notB (w_b (w_allc (stepB p) ?_))
    walk_at "STN"
    refine ⟨by omega, fun x hxx => ⟨_, rfl, ?_⟩, ?_⟩
    · walk_at "STN"
      exact w_move (hx x hxx)
    · refine ⟨_, rfl, fun a => ?_, fun a => ?_⟩
      · exact ws_raise ⟨rfl, rfl, bl_ff a⟩
      · exact ws_next ⟨rfl, rfl, bl_tt a⟩
  · have b := of_decide_eq_true b
    have e : decide (ms.length ≤ 12) = false := decide_eq_false (by omega)
    refine ⟨fun _ => ?_, fun z => (nomatch z)⟩
    exact ws_raise ⟨rfl, rfl, by rw [e]; rfl⟩
theorem init_run {c q : D} {ms : List D} (S : Store) (hc : finD 5 c = true) (hq : finD 5 q = true) (hm : finD 5 (.tup ms) = true) :
    Rs (b_Procedure___init__ [.val (.mut S.length), .val c, .val q, .val (.tup ms), .un]) (S ++ [.ins "Procedure" []]) (fun fl _ S' => fl = .nx ∧ dueB c q (.tup ms) = true ∧ S' = S ++ [.ins "Procedure" [("own_name", c), ("own_points", q), ("own_moves", .tup ms)]])
      (fun c0 fs S' => c0 = IP ∧ fs = [] ∧ dueB c q (.tup ms) = false ∧ S' = S ++ [.ins "Procedure" []]) := by
  unfold b_Procedure___init__
  have at_ : ∀ fs : List (Str × D), (S ++ [Cell.ins "Procedure" fs])[S.length]? = some (.ins "Procedure" fs) := fun fs => by rw [List.getElem?_append_right (Nat.le_refl _), Nat.sub_self]; rfl
  refine rs_seq (rs_ws (ws_chk1 rfl hc hq) (fun fl ρ ⟨e1, e2, e3⟩ => ⟨fun _ => ?_, fun z => absurd e1 z⟩) fun c0 fs ⟨e1, e2, e3⟩ => ⟨e1, e2, by rw [due_eq, ← Bool.and_assoc, e3]; rfl, rfl⟩)
  subst e2
  cases q with
  | int p =>
    refine rs_seq (rs_ws (ws_chk2 rfl hm) (fun fl ρ ⟨e1, e2, e4⟩ => ⟨fun _ => ?_, fun z => absurd e1 z⟩) fun c0 fs ⟨e1, e2, e4⟩ => ⟨e1, e2, by rw [due_eq, ← Bool.and_assoc, e3]; exact e4, rfl⟩)
    subst e2
    refine rs_seq (rs_setF (d := c) (n := S.length) (w_var (by rfl) rfl) (w_var (by rfl) rfl) (at_ _) (by decide) (by decide) ⟨fun _ => ?_, fun z => absurd rfl z⟩)
    rw [set_last]
    refine rs_seq (rs_setF (d := .int p) (n := S.length) (w_var (by rfl) rfl) (w_var (by rfl) rfl) (at_ _) (by decide) (by show (1 : Nat) < 1000; decide) ⟨fun _ => ?_, fun z => absurd rfl z⟩)
    rw [set_last]
    refine rs_setF (d := .tup ms) (n := S.length) (w_var (by rfl) rfl) (w_var (by rfl) rfl) (at_ _) (by decide) (by show (2 : Nat) < 1000; decide) ⟨rfl, ?_, ?_⟩
    · rw [due_eq, ← Bool.and_assoc, e3]; exact e4
    · rw [set_last]
      rfl
  | _ => rw [show okP _ = false from rfl, Bool.and_false] at e3; cases e3
theorem w_mk {c q : D} {ms : List D} {P : D → Prop} (hI : ∀ S, I S → S.all plC = true) (hc : finD 5 c = true) (hq : finD 5 q = true) (hm : finD 5 (.tup ms) = true) (hp : dueB c q (.tup ms) = true → P (procD c q ms)) (hx : dueB c q (.tup ms) = false → X IP []) :
    Wp I (gMake "Procedure" (starF 3 F_Procedure___init__) (c :: q :: ms)) P X := by
  obtain ⟨hl, _⟩ := fin_tup.mp hm
  have hl := Nat.le_trans hl (bnd40 _)
  refine w_make hI fun S i => ?_
  have h := init_run S hc hq hm
  have e : starF 3 F_Procedure___init__ (.mut S.length :: c :: q :: ms) (S ++ [.ins "Procedure" []]) = F_Procedure___init__ [.mut S.length, c, q, .tup ms] (S ++ [.ins "Procedure" []]) := by
    unfold starF
    rw [if_pos ⟨by simp only [List.length_cons]; omega, by simp only [List.length_cons]; omega⟩]
    rfl
  rw [e]
  unfold Rs at h
  have e2 : F_Procedure___init__ [.mut S.length, c, q, .tup ms] (S ++ [.ins "Procedure" []]) = (match b_Procedure___init__ [.val (.mut S.length), .val c, .val q, .val (.tup ms), .un] (S ++ [.ins "Procedure" []]) with
    | .go (.rt d) _ S' => .ok d S'
    | .go .nx _ S' => .ok .non S'
    | .exc c f _ S' => .exc c f S'
    | _ => .bad) := rfl
  rw [e2]
  cases r : b_Procedure___init__ [.val (.mut S.length), .val c, .val q, .val (.tup ms), .un] (S ++ [.ins "Procedure" []]) with
  | go fl ρ S' =>
    rw [r] at h
    obtain ⟨rfl, hd, rfl⟩ := h
    refine ⟨rfl, _, rfl, ?_, hp hd⟩
    show plFs [("own_name", c), ("own_points", q), ("own_moves", .tup ms)] = true
    unfold plFs plFs plFs plFs
    rw [fin_pl hc, fin_pl hq, fin_pl hm]
    rfl
  | exc c0 fs ρ S' =>
    rw [r] at h
    obtain ⟨rfl, rfl, hd, rfl⟩ := h
    exact ⟨rfl, rfl, hx hd⟩
  | bad => rw [r] at h; exact h
theorem w_of {c q m : D} {P : D → Prop} (hI : ∀ S, I S → S.all plC = true) (hc : finD 5 c = true) (hq : finD 5 q = true) (hm : finD 5 m = true) (hp : ∀ ms, m = .tup ms → dueB c q m = true → P (procD c q ms)) (hx : dueB c q m = false → X IP []) :
    Wp I (cF 4 F_Procedure_of [.cls "Procedure", c, q, m]) P X := by
  refine w_cF rfl ?_
  refine w_def rfl ?_
  unfold b_Procedure_of
  walk_at "STN"
  refine wg_isTuple (fin_ty hm) ?_
  walk_at "STN"
  refine ⟨fun a => ?_, fun a => ?_⟩
  · refine ws_raise (hx ?_)
    cases m with
    | tup _ => cases a
    | _ => cases q <;> first | rfl | (show (wordB c && (_ && false)) = false; rw [Bool.and_false, Bool.and_false])
  · cases m with
    | tup ms =>
      walk_at "STN"
      refine w_mkV (by rfl) ?_
      walk_at "STN"
      refine w_star ?_
      walk_at "STN"
      rw [List.append_nil]
      exact w_mk hI hc hq hm (fun hd => hp ms rfl hd) hx
    | _ => cases a
theorem w_eqP {c q c' q' : D} {ms ms' : List D} {b1 b2 b3 : Bool} (e1 : eqN 50 c c' = some b1) (e2 : eqN 50 q q' = some b2) (e3 : eqN 50 (.tup ms) (.tup ms') = some b3) : Wp I (cF 2 F_Procedure___eq__ [procD c q ms, procD c' q' ms']) (fun r => r = .bl (b1 && (b2 && b3))) X := by
  refine w_cF rfl ?_
  refine w_def rfl ?_
  unfold b_Procedure___eq__ procD
  refine ws_ret (w_andV ?_)
  walk_at "STN"
  refine wg_isI (b := true) rfl ?_
  refine ⟨_, rfl, fun _ => ?_, fun z => (nomatch z)⟩
  refine w_andV ?_
  walk_at "STN"
  refine wg_get (d := c) (by decide) (by rfl) ?_
  walk_at "STN"
  refine wg_get (d := c') (by decide) (by rfl) ?_
  refine wg_eqN e1 ?_
  refine ⟨_, rfl, fun u => ?_, fun u => by rw [u]; rfl⟩
  subst u
  refine w_andV ?_
  walk_at "STN"
  refine wg_get (d := q) (by decide) (by rfl) ?_
  walk_at "STN"
  refine wg_get (d := q') (by decide) (by rfl) ?_
  refine wg_eqN e2 ?_
  refine ⟨_, rfl, fun u => ?_, fun u => by rw [u]; rfl⟩
  subst u
  walk_at "STN"
  refine wg_get (d := .tup ms) (by decide) (by rfl) ?_
  walk_at "STN"
  refine wg_get (d := .tup ms') (by decide) (by rfl) ?_
  exact wg_eqN e3 rfl
theorem w_eqO {d y : D} (hy : noIns y = true) (ty : Ty y) : Wp I (cF 2 F_Procedure___eq__ [d, y]) (fun r => r = .bl false) X := by
  refine w_cF rfl ?_
  refine w_def rfl ?_
  unfold b_Procedure___eq__
  obtain ⟨t, ht⟩ := ty
  refine ws_ret (w_andV ?_)
  walk_at "STN"
  refine wg_isIN hy ht ?_
  exact ⟨_, rfl, fun z => (nomatch z), fun _ => rfl⟩
theorem w_called {c q : D} {ms : List D} : Wp I (cF 1 F_Procedure_called [procD c q ms]) (fun r => r = c) X := by
  refine w_cF rfl ?_
  refine w_def rfl ?_
  unfold b_Procedure_called procD
  walk_at "STN"
  exact wg_get (by decide) (by rfl) rfl
theorem w_points {c q : D} {ms : List D} : Wp I (cF 1 F_Procedure_points [procD c q ms]) (fun r => r = q) X := by
  refine w_cF rfl ?_
  refine w_def rfl ?_
  unfold b_Procedure_points procD
  walk_at "STN"
  exact wg_get (by decide) (by rfl) rfl
theorem w_moves {c q : D} {ms : List D} : Wp I (cF 1 F_Procedure_moves [procD c q ms]) (fun r => r = .tup ms) X := by
  refine w_cF rfl ?_
  refine w_def rfl ?_
  unfold b_Procedure_moves procD
  walk_at "STN"
  exact wg_get (by decide) (by rfl) rfl
theorem w_len {c q : D} {ms : List D} : Wp I (cF 1 F_Procedure___len__ [procD c q ms]) (fun r => r = .int ms.length) X := by
  refine w_cF rfl ?_
  refine w_def rfl ?_
  unfold b_Procedure___len__ procD
  walk_at "STN"
  refine wg_get (d := .tup ms) (by decide) (by rfl) ?_
  walk_at "STN"
  rfl
end
end K10
/-! K10v: what is drawn. -/
namespace DN
open PySem PySem.Spec PyProof.Rows L2
/-- a word about the store that holds while the die is cast -/
structure DieI (n : Nat) (I : Store → Prop) : Prop where
  at_ : ∀ S, I S → IsDie n S
  set_ : ∀ S (a b c : Int), I S → I (S.set n (.lst [.int a, .int b, .int c]))
section
variable {n : Nat} {I : Store → Prop} {X : XP}
theorem w_dieAtG (hD : DieI n I) {k : Int} {P : D → Prop} (hk : k = 0 ∨ k = 1 ∨ k = 2) (h : ∀ i : Int, P (.int i)) : Wp I (gIx (.mut n) (.int k)) P X := Wp.mk fun S i => by
  obtain ⟨a, b, c, e⟩ := hD.at_ S i
  have e' : S[n]? = some (.lst [.int a, .int b, .int c]) := e
  unfold gIx
  dsimp only
  rw [e']
  rcases hk with rfl | rfl | rfl
  · exact ⟨h a, i⟩
  · exact ⟨h b, i⟩
  · exact ⟨h c, i⟩
theorem w_dieSetG (hD : DieI n I) {k v : Int} {P : Unit → Prop} (hk : k = 0 ∨ k = 1 ∨ k = 2) (h : P ()) : Wp I (gSetI (.mut n) (.int k) (.int v)) P X := Wp.mk fun S i => by
  obtain ⟨a, b, c, e⟩ := hD.at_ S i
  have e' : S[n]? = some (.lst [.int a, .int b, .int c]) := e
  unfold gSetI
  dsimp only
  rw [e']
  rcases hk with rfl | rfl | rfl
  · exact ⟨h, hD.set_ S v b c i⟩
  · exact ⟨h, hD.set_ S a v c i⟩
  · exact ⟨h, hD.set_ S a b v i⟩
end
end DN
namespace K10
open PySem PySem.Spec PyProof.Rows L2 DN KB
local macro_rules | `(tactic| walk_at "STN") => `(tactic| (repeat (first | with_reducible refine ws_seq ?_ | with_reducible refine ws_asg ?_ | with_reducible refine ws_ret ?_ | with_reducible refine ws_if ?_ | with_reducible refine ws_next ?_ | with_reducible refine ws_retN ?_ | with_reducible refine ws_brk ?_ | with_reducible refine ws_cont ?_ | with_reducible refine ws_drop ?_ | with_reducible refine ws_setI ?_ | with_reducible refine ws_for ?_ | with_reducible refine ws_par ?_ | with_reducible refine ws_frz ?_ | with_reducible refine ws_parO ?_ | with_reducible refine ws_setOwn ?_ | with_reducible refine ⟨fun _ => ?_, fun z => absurd rfl z⟩ | refine And.intro rt_nx fun _ => ?_ | refine And.intro bk_nx fun _ => ?_ | refine And.intro ct_nx fun _ => ?_ | with_reducible refine w_c2 ?_ | with_reducible refine w_c1 ?_ | with_reducible refine w_cA ?_ | with_reducible refine w_cons ?_ | with_reducible refine w_nil ?_ | with_reducible refine w_c ?_ | with_reducible refine w_call ?_ | with_reducible refine w_it ?_ | with_reducible refine w_rng1 ?_ | with_reducible refine w_rng2 ?_ | with_reducible refine w_m0 ?_ | with_reducible refine w_m1 ?_ | with_reducible refine w_sl ?_ | with_reducible refine w_part ?_ | with_reducible refine w_noP ?_ | with_reducible refine w_b ?_ | with_reducible refine w_notB ?_ | with_reducible refine w_if ?_ | with_reducible refine w_chain ?_ | with_reducible refine w_zip ?_ | with_reducible refine w_enum ?_ | with_reducible refine wg_add ?_ | with_reducible refine wg_sub ?_ | with_reducible refine wg_neg ?_ | with_reducible refine wg_lt ?_ | with_reducible refine wg_le ?_ | with_reducible refine wg_gt ?_ | with_reducible refine wg_ge ?_ | with_reducible refine wg_not ?_ | with_reducible refine wg_lenL ?_ | with_reducible refine wg_lenT ?_ | with_reducible refine wg_lenC ?_ | with_reducible refine wg_int ?_ | with_reducible refine wg_intB ?_ | with_reducible refine wg_abs ?_ | with_reducible refine wg_max2 ?_ | with_reducible refine wg_min2 ?_ | with_reducible refine wg_reprB ?_ | with_reducible refine wg_itL ?_ | with_reducible refine wg_itT ?_ | with_reducible refine wg_itC ?_ | with_reducible refine wg_itS ?_ | with_reducible refine wg_slL ?_ | with_reducible refine wg_slT ?_ | with_reducible refine wg_tupleL ?_ | with_reducible refine wg_tupleT ?_ | with_reducible refine wg_listL ?_ | with_reducible refine wg_listT ?_ | with_reducible refine wg_revL ?_ | with_reducible refine wg_revT ?_ | with_reducible refine wg_zipT ?_ | with_reducible refine wg_allM ?_ | with_reducible refine wg_anyM ?_ | with_reducible refine w_var (by with_unfolding_all rfl) ?_ | with_reducible refine wg_mul (Or.inr (by decide)) ?_ | with_reducible refine wg_mul (Or.inl (by decide)) ?_ | with_reducible refine wg_mod (by decide +kernel) ?_ | with_reducible refine wg_fdiv (by decide) ?_ | with_reducible refine wg_pow (by decide +kernel) ?_ | with_reducible refine wg_tup (by simp; done) ?_ | with_reducible refine wg_lst (by simp; done) ?_ | with_reducible refine w_dieSet (by decide) ?_ | with_reducible refine w_dieAt (by decide) (fun _ => ?_) | refine ⟨_, rfl, ?_⟩ | refine ⟨rfl, ?_⟩ | with_reducible refine wg_ltI ?_ | with_reducible refine wg_mulAI (Or.inr (by decide)) ?_ | with_reducible refine wg_mulAI (Or.inl (by decide)) ?_ | with_reducible refine w_dieSetP (by decide) ?_ | with_reducible refine w_cF rfl ?_ | with_reducible refine wg_neEI ?_ | with_reducible refine wg_neEB ?_ | with_reducible refine wg_neL ?_ | with_reducible refine wg_neT ?_ | with_reducible refine wg_lenIT ?_ | with_reducible refine wg_lenIL ?_ | with_reducible refine wg_lenIC ?_ | with_reducible refine ws_match ?_ | with_reducible refine ws_parV ?_ | with_reducible refine w_dieAtP (by decide) (fun _ => ?_))))
theorem w_castG {n : Nat} {I : Store → Prop} (hD : DieI n I) {t : Int} {X : XP} (h0 : 0 < t) (h1 : t < 1073741824) : Wp I (F_law_cast [.mut n, .int t]) (fun d => ∃ r, d = .int r ∧ 0 ≤ r ∧ r < t) X := by
  refine w_def rfl ?_
  unfold b_law_cast
  (repeat (first | with_reducible refine ws_seq ?_ | with_reducible refine ws_asg ?_ | with_reducible refine ws_ret ?_ | with_reducible refine ws_if ?_ | with_reducible refine ws_next ?_ | with_reducible refine ws_retN ?_ | with_reducible refine ws_brk ?_ | with_reducible refine ws_cont ?_ | with_reducible refine ws_drop ?_ | with_reducible refine ws_setI ?_ | with_reducible refine ws_for ?_ | with_reducible refine ws_par ?_ | with_reducible refine ws_frz ?_ | with_reducible refine ws_parO ?_ | with_reducible refine ws_setOwn ?_ | with_reducible refine ⟨fun _ => ?_, fun z => absurd rfl z⟩ | refine And.intro rt_nx fun _ => ?_ | refine And.intro bk_nx fun _ => ?_ | refine And.intro ct_nx fun _ => ?_ | with_reducible refine w_c2 ?_ | with_reducible refine w_c1 ?_ | with_reducible refine w_cA ?_ | with_reducible refine w_cons ?_ | with_reducible refine w_nil ?_ | with_reducible refine w_c ?_ | with_reducible refine w_call ?_ | with_reducible refine w_it ?_ | with_reducible refine w_rng1 ?_ | with_reducible refine w_rng2 ?_ | with_reducible refine w_m0 ?_ | with_reducible refine w_m1 ?_ | with_reducible refine w_sl ?_ | with_reducible refine w_part ?_ | with_reducible refine w_noP ?_ | with_reducible refine w_b ?_ | with_reducible refine w_notB ?_ | with_reducible refine w_if ?_ | with_reducible refine w_chain ?_ | with_reducible refine w_zip ?_ | with_reducible refine w_enum ?_ | with_reducible refine wg_add ?_ | with_reducible refine wg_sub ?_ | with_reducible refine wg_neg ?_ | with_reducible refine wg_lt ?_ | with_reducible refine wg_le ?_ | with_reducible refine wg_gt ?_ | with_reducible refine wg_ge ?_ | with_reducible refine wg_not ?_ | with_reducible refine wg_lenL ?_ | with_reducible refine wg_lenT ?_ | with_reducible refine wg_lenC ?_ | with_reducible refine wg_int ?_ | with_reducible refine wg_intB ?_ | with_reducible refine wg_abs ?_ | with_reducible refine wg_max2 ?_ | with_reducible refine wg_min2 ?_ | with_reducible refine wg_reprB ?_ | with_reducible refine wg_itL ?_ | with_reducible refine wg_itT ?_ | with_reducible refine wg_itC ?_ | with_reducible refine wg_itS ?_ | with_reducible refine wg_slL ?_ | with_reducible refine wg_slT ?_ | with_reducible refine wg_tupleL ?_ | with_reducible refine wg_tupleT ?_ | with_reducible refine wg_listL ?_ | with_reducible refine wg_listT ?_ | with_reducible refine wg_revL ?_ | with_reducible refine wg_revT ?_ | with_reducible refine wg_zipT ?_ | with_reducible refine wg_allM ?_ | with_reducible refine wg_anyM ?_ | with_reducible refine w_var (by with_unfolding_all rfl) ?_ | with_reducible refine wg_mul (Or.inr (by decide)) ?_ | with_reducible refine wg_mul (Or.inl (by decide)) ?_ | with_reducible refine wg_mod (by decide +kernel) ?_ | with_reducible refine wg_fdiv (by decide) ?_ | with_reducible refine wg_pow (by decide +kernel) ?_ | with_reducible refine wg_tup (by simp; done) ?_ | with_reducible refine wg_lst (by simp; done) ?_ | with_reducible refine w_dieSet (by decide) ?_ | with_reducible refine w_dieAt (by decide) (fun _ => ?_) | refine ⟨_, rfl, ?_⟩ | refine ⟨rfl, ?_⟩ | with_reducible refine wg_ltI ?_ | with_reducible refine wg_mulAI (Or.inr (by decide)) ?_ | with_reducible refine wg_mulAI (Or.inl (by decide)) ?_ | with_reducible refine w_dieSetP (by decide) ?_ | with_reducible refine w_cF rfl ?_ | with_reducible refine wg_neEI ?_ | with_reducible refine wg_neEB ?_ | with_reducible refine wg_neL ?_ | with_reducible refine wg_neT ?_ | with_reducible refine wg_lenIT ?_ | with_reducible refine wg_lenIL ?_ | with_reducible refine wg_lenIC ?_ | with_reducible refine ws_match ?_ | with_reducible refine ws_parV ?_ | with_reducible refine w_dieAtP (by decide) (fun _ => ?_) | with_reducible refine w_dieSetG hD (by decide) ?_ | with_reducible refine w_dieAtG hD (by decide) (fun _ => ?_)))
  refine ⟨fun _ => ?_, fun _ => ?_⟩
  · (repeat (first | with_reducible refine ws_seq ?_ | with_reducible refine ws_asg ?_ | with_reducible refine ws_ret ?_ | with_reducible refine ws_if ?_ | with_reducible refine ws_next ?_ | with_reducible refine ws_retN ?_ | with_reducible refine ws_brk ?_ | with_reducible refine ws_cont ?_ | with_reducible refine ws_drop ?_ | with_reducible refine ws_setI ?_ | with_reducible refine ws_for ?_ | with_reducible refine ws_par ?_ | with_reducible refine ws_frz ?_ | with_reducible refine ws_parO ?_ | with_reducible refine ws_setOwn ?_ | with_reducible refine ⟨fun _ => ?_, fun z => absurd rfl z⟩ | refine And.intro rt_nx fun _ => ?_ | refine And.intro bk_nx fun _ => ?_ | refine And.intro ct_nx fun _ => ?_ | with_reducible refine w_c2 ?_ | with_reducible refine w_c1 ?_ | with_reducible refine w_cA ?_ | with_reducible refine w_cons ?_ | with_reducible refine w_nil ?_ | with_reducible refine w_c ?_ | with_reducible refine w_call ?_ | with_reducible refine w_it ?_ | with_reducible refine w_rng1 ?_ | with_reducible refine w_rng2 ?_ | with_reducible refine w_m0 ?_ | with_reducible refine w_m1 ?_ | with_reducible refine w_sl ?_ | with_reducible refine w_part ?_ | with_reducible refine w_noP ?_ | with_reducible refine w_b ?_ | with_reducible refine w_notB ?_ | with_reducible refine w_if ?_ | with_reducible refine w_chain ?_ | with_reducible refine w_zip ?_ | with_reducible refine w_enum ?_ | with_reducible refine wg_add ?_ | with_reducible refine wg_sub ?_ | with_reducible refine wg_neg ?_ | with_reducible refine wg_lt ?_ | with_reducible refine wg_le ?_ | with_reducible refine wg_gt ?_ | with_reducible refine wg_ge ?_ | with_reducible refine wg_not ?_ | with_reducible refine wg_lenL ?_ | with_reducible refine wg_lenT ?_ | with_reducible refine wg_lenC ?_ | with_reducible refine wg_int ?_ | with_reducible refine wg_intB ?_ | with_reducible refine wg_abs ?_ | with_reducible refine wg_max2 ?_ | with_reducible refine wg_min2 ?_ | with_reducible refine wg_reprB ?_ | with_reducible refine wg_itL ?_ | with_reducible refine wg_itT ?_ | with_reducible refine wg_itC ?_ | with_reducible refine wg_itS ?_ | with_reducible refine wg_slL ?_ | with_reducible refine wg_slT ?_ | with_reducible refine wg_tupleL ?_ | with_reducible refine wg_tupleT ?_ | with_reducible refine wg_listL ?_ | with_reducible refine wg_listT ?_ | with_reducible refine wg_revL ?_ | with_reducible refine wg_revT ?_ | with_reducible refine wg_zipT ?_ | with_reducible refine wg_allM ?_ | with_reducible refine wg_anyM ?_ | with_reducible refine w_var (by with_unfolding_all rfl) ?_ | with_reducible refine wg_mul (Or.inr (by decide)) ?_ | with_reducible refine wg_mul (Or.inl (by decide)) ?_ | with_reducible refine wg_mod (by decide +kernel) ?_ | with_reducible refine wg_fdiv (by decide) ?_ | with_reducible refine wg_pow (by decide +kernel) ?_ | with_reducible refine wg_tup (by simp; done) ?_ | with_reducible refine wg_lst (by simp; done) ?_ | with_reducible refine w_dieSet (by decide) ?_ | with_reducible refine w_dieAt (by decide) (fun _ => ?_) | refine ⟨_, rfl, ?_⟩ | refine ⟨rfl, ?_⟩ | with_reducible refine wg_ltI ?_ | with_reducible refine wg_mulAI (Or.inr (by decide)) ?_ | with_reducible refine wg_mulAI (Or.inl (by decide)) ?_ | with_reducible refine w_dieSetP (by decide) ?_ | with_reducible refine w_cF rfl ?_ | with_reducible refine wg_neEI ?_ | with_reducible refine wg_neEB ?_ | with_reducible refine wg_neL ?_ | with_reducible refine wg_neT ?_ | with_reducible refine wg_lenIT ?_ | with_reducible refine wg_lenIL ?_ | with_reducible refine wg_lenIC ?_ | with_reducible refine ws_match ?_ | with_reducible refine ws_parV ?_ | with_reducible refine w_dieAtP (by decide) (fun _ => ?_) | with_reducible refine w_dieSetG hD (by decide) ?_ | with_reducible refine w_dieAtG hD (by decide) (fun _ => ?_)))
    refine wg_mod h0 ?_
    (repeat (first | with_reducible refine ws_seq ?_ | with_reducible refine ws_asg ?_ | with_reducible refine ws_ret ?_ | with_reducible refine ws_if ?_ | with_reducible refine ws_next ?_ | with_reducible refine ws_retN ?_ | with_reducible refine ws_brk ?_ | with_reducible refine ws_cont ?_ | with_reducible refine ws_drop ?_ | with_reducible refine ws_setI ?_ | with_reducible refine ws_for ?_ | with_reducible refine ws_par ?_ | with_reducible refine ws_frz ?_ | with_reducible refine ws_parO ?_ | with_reducible refine ws_setOwn ?_ | with_reducible refine ⟨fun _ => ?_, fun z => absurd rfl z⟩ | refine And.intro rt_nx fun _ => ?_ | refine And.intro bk_nx fun _ => ?_ | refine And.intro ct_nx fun _ => ?_ | with_reducible refine w_c2 ?_ | with_reducible refine w_c1 ?_ | with_reducible refine w_cA ?_ | with_reducible refine w_cons ?_ | with_reducible refine w_nil ?_ | with_reducible refine w_c ?_ | with_reducible refine w_call ?_ | with_reducible refine w_it ?_ | with_reducible refine w_rng1 ?_ | with_reducible refine w_rng2 ?_ | with_reducible refine w_m0 ?_ | with_reducible refine w_m1 ?_ | with_reducible refine w_sl ?_ | with_reducible refine w_part ?_ | with_reducible refine w_noP ?_ | with_reducible refine w_b ?_ | with_reducible refine w_notB ?_ | with_reducible refine w_if ?_ | with_reducible refine w_chain ?_ | with_reducible refine w_zip ?_ | with_reducible refine w_enum ?_ | with_reducible refine wg_add ?_ | with_reducible refine wg_sub ?_ | with_reducible refine wg_neg ?_ | with_reducible refine wg_lt ?_ | with_reducible refine wg_le ?_ | with_reducible refine wg_gt ?_ | with_reducible refine wg_ge ?_ | with_reducible refine wg_not ?_ | with_reducible refine wg_lenL ?_ | with_reducible refine wg_lenT ?_ | with_reducible refine wg_lenC ?_ | with_reducible refine wg_int ?_ | with_reducible refine wg_intB ?_ | with_reducible refine wg_abs ?_ | with_reducible refine wg_max2 ?_ | with_reducible refine wg_min2 ?_ | with_reducible refine wg_reprB ?_ | with_reducible refine wg_itL ?_ | with_reducible refine wg_itT ?_ | with_reducible refine wg_itC ?_ | with_reducible refine wg_itS ?_ | with_reducible refine wg_slL ?_ | with_reducible refine wg_slT ?_ | with_reducible refine wg_tupleL ?_ | with_reducible refine wg_tupleT ?_ | with_reducible refine wg_listL ?_ | with_reducible refine wg_listT ?_ | with_reducible refine wg_revL ?_ | with_reducible refine wg_revT ?_ | with_reducible refine wg_zipT ?_ | with_reducible refine wg_allM ?_ | with_reducible refine wg_anyM ?_ | with_reducible refine w_var (by with_unfolding_all rfl) ?_ | with_reducible refine wg_mul (Or.inr (by decide)) ?_ | with_reducible refine wg_mul (Or.inl (by decide)) ?_ | with_reducible refine wg_mod (by decide +kernel) ?_ | with_reducible refine wg_fdiv (by decide) ?_ | with_reducible refine wg_pow (by decide +kernel) ?_ | with_reducible refine wg_tup (by simp; done) ?_ | with_reducible refine wg_lst (by simp; done) ?_ | with_reducible refine w_dieSet (by decide) ?_ | with_reducible refine w_dieAt (by decide) (fun _ => ?_) | refine ⟨_, rfl, ?_⟩ | refine ⟨rfl, ?_⟩ | with_reducible refine wg_ltI ?_ | with_reducible refine wg_mulAI (Or.inr (by decide)) ?_ | with_reducible refine wg_mulAI (Or.inl (by decide)) ?_ | with_reducible refine w_dieSetP (by decide) ?_ | with_reducible refine w_cF rfl ?_ | with_reducible refine wg_neEI ?_ | with_reducible refine wg_neEB ?_ | with_reducible refine wg_neL ?_ | with_reducible refine wg_neT ?_ | with_reducible refine wg_lenIT ?_ | with_reducible refine wg_lenIL ?_ | with_reducible refine wg_lenIC ?_ | with_reducible refine ws_match ?_ | with_reducible refine ws_parV ?_ | with_reducible refine w_dieAtP (by decide) (fun _ => ?_) | with_reducible refine w_dieSetG hD (by decide) ?_ | with_reducible refine w_dieAtG hD (by decide) (fun _ => ?_)))
    refine wg_fdiv ⟨h0, h1⟩ ?_
    (repeat (first | with_reducible refine ws_seq ?_ | with_reducible refine ws_asg ?_ | with_reducible refine ws_ret ?_ | with_reducible refine ws_if ?_ | with_reducible refine ws_next ?_ | with_reducible refine ws_retN ?_ | with_reducible refine ws_brk ?_ | with_reducible refine ws_cont ?_ | with_reducible refine ws_drop ?_ | with_reducible refine ws_setI ?_ | with_reducible refine ws_for ?_ | with_reducible refine ws_par ?_ | with_reducible refine ws_frz ?_ | with_reducible refine ws_parO ?_ | with_reducible refine ws_setOwn ?_ | with_reducible refine ⟨fun _ => ?_, fun z => absurd rfl z⟩ | refine And.intro rt_nx fun _ => ?_ | refine And.intro bk_nx fun _ => ?_ | refine And.intro ct_nx fun _ => ?_ | with_reducible refine w_c2 ?_ | with_reducible refine w_c1 ?_ | with_reducible refine w_cA ?_ | with_reducible refine w_cons ?_ | with_reducible refine w_nil ?_ | with_reducible refine w_c ?_ | with_reducible refine w_call ?_ | with_reducible refine w_it ?_ | with_reducible refine w_rng1 ?_ | with_reducible refine w_rng2 ?_ | with_reducible refine w_m0 ?_ | with_reducible refine w_m1 ?_ | with_reducible refine w_sl ?_ | with_reducible refine w_part ?_ | with_reducible refine w_noP ?_ | with_reducible refine w_b ?_ | with_reducible refine w_notB ?_ | with_reducible refine w_if ?_ | with_reducible refine w_chain ?_ | with_reducible refine w_zip ?_ | with_reducible refine w_enum ?_ | with_reducible refine wg_add ?_ | with_reducible refine wg_sub ?_ | with_reducible refine wg_neg ?_ | with_reducible refine wg_lt ?_ | with_reducible refine wg_le ?_ | with_reducible refine wg_gt ?_ | with_reducible refine wg_ge ?_ | with_reducible refine wg_not ?_ | with_reducible refine wg_lenL ?_ | with_reducible refine wg_lenT ?_ | with_reducible refine wg_lenC ?_ | with_reducible refine wg_int ?_ | with_reducible refine wg_intB ?_ | with_reducible refine wg_abs ?_ | with_reducible refine wg_max2 ?_ | with_reducible refine wg_min2 ?_ | with_reducible refine wg_reprB ?_ | with_reducible refine wg_itL ?_ | with_reducible refine wg_itT ?_ | with_reducible refine wg_itC ?_ | with_reducible refine wg_itS ?_ | with_reducible refine wg_slL ?_ | with_reducible refine wg_slT ?_ | with_reducible refine wg_tupleL ?_ | with_reducible refine wg_tupleT ?_ | with_reducible refine wg_listL ?_ | with_reducible refine wg_listT ?_ | with_reducible refine wg_revL ?_ | with_reducible refine wg_revT ?_ | with_reducible refine wg_zipT ?_ | with_reducible refine wg_allM ?_ | with_reducible refine wg_anyM ?_ | with_reducible refine w_var (by with_unfolding_all rfl) ?_ | with_reducible refine wg_mul (Or.inr (by decide)) ?_ | with_reducible refine wg_mul (Or.inl (by decide)) ?_ | with_reducible refine wg_mod (by decide +kernel) ?_ | with_reducible refine wg_fdiv (by decide) ?_ | with_reducible refine wg_pow (by decide +kernel) ?_ | with_reducible refine wg_tup (by simp; done) ?_ | with_reducible refine wg_lst (by simp; done) ?_ | with_reducible refine w_dieSet (by decide) ?_ | with_reducible refine w_dieAt (by decide) (fun _ => ?_) | refine ⟨_, rfl, ?_⟩ | refine ⟨rfl, ?_⟩ | with_reducible refine wg_ltI ?_ | with_reducible refine wg_mulAI (Or.inr (by decide)) ?_ | with_reducible refine wg_mulAI (Or.inl (by decide)) ?_ | with_reducible refine w_dieSetP (by decide) ?_ | with_reducible refine w_cF rfl ?_ | with_reducible refine wg_neEI ?_ | with_reducible refine wg_neEB ?_ | with_reducible refine wg_neL ?_ | with_reducible refine wg_neT ?_ | with_reducible refine wg_lenIT ?_ | with_reducible refine wg_lenIL ?_ | with_reducible refine wg_lenIC ?_ | with_reducible refine ws_match ?_ | with_reducible refine ws_parV ?_ | with_reducible refine w_dieAtP (by decide) (fun _ => ?_) | with_reducible refine w_dieSetG hD (by decide) ?_ | with_reducible refine w_dieAtG hD (by decide) (fun _ => ?_)))
    exact ⟨Int.emod_nonneg _ (by omega), Int.emod_lt_of_pos _ h0⟩
  · (repeat (first | with_reducible refine ws_seq ?_ | with_reducible refine ws_asg ?_ | with_reducible refine ws_ret ?_ | with_reducible refine ws_if ?_ | with_reducible refine ws_next ?_ | with_reducible refine ws_retN ?_ | with_reducible refine ws_brk ?_ | with_reducible refine ws_cont ?_ | with_reducible refine ws_drop ?_ | with_reducible refine ws_setI ?_ | with_reducible refine ws_for ?_ | with_reducible refine ws_par ?_ | with_reducible refine ws_frz ?_ | with_reducible refine ws_parO ?_ | with_reducible refine ws_setOwn ?_ | with_reducible refine ⟨fun _ => ?_, fun z => absurd rfl z⟩ | refine And.intro rt_nx fun _ => ?_ | refine And.intro bk_nx fun _ => ?_ | refine And.intro ct_nx fun _ => ?_ | with_reducible refine w_c2 ?_ | with_reducible refine w_c1 ?_ | with_reducible refine w_cA ?_ | with_reducible refine w_cons ?_ | with_reducible refine w_nil ?_ | with_reducible refine w_c ?_ | with_reducible refine w_call ?_ | with_reducible refine w_it ?_ | with_reducible refine w_rng1 ?_ | with_reducible refine w_rng2 ?_ | with_reducible refine w_m0 ?_ | with_reducible refine w_m1 ?_ | with_reducible refine w_sl ?_ | with_reducible refine w_part ?_ | with_reducible refine w_noP ?_ | with_reducible refine w_b ?_ | with_reducible refine w_notB ?_ | with_reducible refine w_if ?_ | with_reducible refine w_chain ?_ | with_reducible refine w_zip ?_ | with_reducible refine w_enum ?_ | with_reducible refine wg_add ?_ | with_reducible refine wg_sub ?_ | with_reducible refine wg_neg ?_ | with_reducible refine wg_lt ?_ | with_reducible refine wg_le ?_ | with_reducible refine wg_gt ?_ | with_reducible refine wg_ge ?_ | with_reducible refine wg_not ?_ | with_reducible refine wg_lenL ?_ | with_reducible refine wg_lenT ?_ | with_reducible refine wg_lenC ?_ | with_reducible refine wg_int ?_ | with_reducible refine wg_intB ?_ | with_reducible refine wg_abs ?_ | with_reducible refine wg_max2 ?_ | with_reducible refine wg_min2 ?_ | with_reducible refine wg_reprB ?_ | with_reducible refine wg_itL ?_ | with_reducible refine wg_itT ?_ | with_reducible refine wg_itC ?_ | with_reducible refine wg_itS ?_ | with_reducible refine wg_slL ?_ | with_reducible refine wg_slT ?_ | with_reducible refine wg_tupleL ?_ | with_reducible refine wg_tupleT ?_ | with_reducible refine wg_listL ?_ | with_reducible refine wg_listT ?_ | with_reducible refine wg_revL ?_ | with_reducible refine wg_revT ?_ | with_reducible refine wg_zipT ?_ | with_reducible refine wg_allM ?_ | with_reducible refine wg_anyM ?_ | with_reducible refine w_var (by with_unfolding_all rfl) ?_ | with_reducible refine wg_mul (Or.inr (by decide)) ?_ | with_reducible refine wg_mul (Or.inl (by decide)) ?_ | with_reducible refine wg_mod (by decide +kernel) ?_ | with_reducible refine wg_fdiv (by decide) ?_ | with_reducible refine wg_pow (by decide +kernel) ?_ | with_reducible refine wg_tup (by simp; done) ?_ | with_reducible refine wg_lst (by simp; done) ?_ | with_reducible refine w_dieSet (by decide) ?_ | with_reducible refine w_dieAt (by decide) (fun _ => ?_) | refine ⟨_, rfl, ?_⟩ | refine ⟨rfl, ?_⟩ | with_reducible refine wg_ltI ?_ | with_reducible refine wg_mulAI (Or.inr (by decide)) ?_ | with_reducible refine wg_mulAI (Or.inl (by decide)) ?_ | with_reducible refine w_dieSetP (by decide) ?_ | with_reducible refine w_cF rfl ?_ | with_reducible refine wg_neEI ?_ | with_reducible refine wg_neEB ?_ | with_reducible refine wg_neL ?_ | with_reducible refine wg_neT ?_ | with_reducible refine wg_lenIT ?_ | with_reducible refine wg_lenIL ?_ | with_reducible refine wg_lenIC ?_ | with_reducible refine ws_match ?_ | with_reducible refine ws_parV ?_ | with_reducible refine w_dieAtP (by decide) (fun _ => ?_) | with_reducible refine w_dieSetG hD (by decide) ?_ | with_reducible refine w_dieAtG hD (by decide) (fun _ => ?_)))
    refine wg_mulAI (Or.inl ⟨by omega, by omega⟩) ?_
    (repeat (first | with_reducible refine ws_seq ?_ | with_reducible refine ws_asg ?_ | with_reducible refine ws_ret ?_ | with_reducible refine ws_if ?_ | with_reducible refine ws_next ?_ | with_reducible refine ws_retN ?_ | with_reducible refine ws_brk ?_ | with_reducible refine ws_cont ?_ | with_reducible refine ws_drop ?_ | with_reducible refine ws_setI ?_ | with_reducible refine ws_for ?_ | with_reducible refine ws_par ?_ | with_reducible refine ws_frz ?_ | with_reducible refine ws_parO ?_ | with_reducible refine ws_setOwn ?_ | with_reducible refine ⟨fun _ => ?_, fun z => absurd rfl z⟩ | refine And.intro rt_nx fun _ => ?_ | refine And.intro bk_nx fun _ => ?_ | refine And.intro ct_nx fun _ => ?_ | with_reducible refine w_c2 ?_ | with_reducible refine w_c1 ?_ | with_reducible refine w_cA ?_ | with_reducible refine w_cons ?_ | with_reducible refine w_nil ?_ | with_reducible refine w_c ?_ | with_reducible refine w_call ?_ | with_reducible refine w_it ?_ | with_reducible refine w_rng1 ?_ | with_reducible refine w_rng2 ?_ | with_reducible refine w_m0 ?_ | with_reducible refine w_m1 ?_ | with_reducible refine w_sl ?_ | with_reducible refine w_part ?_ | with_reducible refine w_noP ?_ | with_reducible refine w_b ?_ | with_reducible refine w_notB ?_ | with_reducible refine w_if ?_ | with_reducible refine w_chain ?_ | with_reducible refine w_zip ?_ | with_reducible refine w_enum ?_ | with_reducible refine wg_add ?_ | with_reducible refine wg_sub ?_ | with_reducible refine wg_neg ?_ | with_reducible refine wg_lt ?_ | with_reducible refine wg_le ?_ | with_reducible refine wg_gt ?_ | with_reducible refine wg_ge ?_ | with_reducible refine wg_not ?_ | with_reducible refine wg_lenL ?_ | with_reducible refine wg_lenT ?_ | with_reducible refine wg_lenC ?_ | with_reducible refine wg_int ?_ | with_reducible refine wg_intB ?_ | with_reducible refine wg_abs ?_ | with_reducible refine wg_max2 ?_ | with_reducible refine wg_min2 ?_ | with_reducible refine wg_reprB ?_ | with_reducible refine wg_itL ?_ | with_reducible refine wg_itT ?_ | with_reducible refine wg_itC ?_ | with_reducible refine wg_itS ?_ | with_reducible refine wg_slL ?_ | with_reducible refine wg_slT ?_ | with_reducible refine wg_tupleL ?_ | with_reducible refine wg_tupleT ?_ | with_reducible refine wg_listL ?_ | with_reducible refine wg_listT ?_ | with_reducible refine wg_revL ?_ | with_reducible refine wg_revT ?_ | with_reducible refine wg_zipT ?_ | with_reducible refine wg_allM ?_ | with_reducible refine wg_anyM ?_ | with_reducible refine w_var (by with_unfolding_all rfl) ?_ | with_reducible refine wg_mul (Or.inr (by decide)) ?_ | with_reducible refine wg_mul (Or.inl (by decide)) ?_ | with_reducible refine wg_mod (by decide +kernel) ?_ | with_reducible refine wg_fdiv (by decide) ?_ | with_reducible refine wg_pow (by decide +kernel) ?_ | with_reducible refine wg_tup (by simp; done) ?_ | with_reducible refine wg_lst (by simp; done) ?_ | with_reducible refine w_dieSet (by decide) ?_ | with_reducible refine w_dieAt (by decide) (fun _ => ?_) | refine ⟨_, rfl, ?_⟩ | refine ⟨rfl, ?_⟩ | with_reducible refine wg_ltI ?_ | with_reducible refine wg_mulAI (Or.inr (by decide)) ?_ | with_reducible refine wg_mulAI (Or.inl (by decide)) ?_ | with_reducible refine w_dieSetP (by decide) ?_ | with_reducible refine w_cF rfl ?_ | with_reducible refine wg_neEI ?_ | with_reducible refine wg_neEB ?_ | with_reducible refine wg_neL ?_ | with_reducible refine wg_neT ?_ | with_reducible refine wg_lenIT ?_ | with_reducible refine wg_lenIL ?_ | with_reducible refine wg_lenIC ?_ | with_reducible refine ws_match ?_ | with_reducible refine ws_parV ?_ | with_reducible refine w_dieAtP (by decide) (fun _ => ?_) | with_reducible refine w_dieSetG hD (by decide) ?_ | with_reducible refine w_dieAtG hD (by decide) (fun _ => ?_)))
    refine wg_mulAI (Or.inl ⟨by omega, by omega⟩) ?_
    (repeat (first | with_reducible refine ws_seq ?_ | with_reducible refine ws_asg ?_ | with_reducible refine ws_ret ?_ | with_reducible refine ws_if ?_ | with_reducible refine ws_next ?_ | with_reducible refine ws_retN ?_ | with_reducible refine ws_brk ?_ | with_reducible refine ws_cont ?_ | with_reducible refine ws_drop ?_ | with_reducible refine ws_setI ?_ | with_reducible refine ws_for ?_ | with_reducible refine ws_par ?_ | with_reducible refine ws_frz ?_ | with_reducible refine ws_parO ?_ | with_reducible refine ws_setOwn ?_ | with_reducible refine ⟨fun _ => ?_, fun z => absurd rfl z⟩ | refine And.intro rt_nx fun _ => ?_ | refine And.intro bk_nx fun _ => ?_ | refine And.intro ct_nx fun _ => ?_ | with_reducible refine w_c2 ?_ | with_reducible refine w_c1 ?_ | with_reducible refine w_cA ?_ | with_reducible refine w_cons ?_ | with_reducible refine w_nil ?_ | with_reducible refine w_c ?_ | with_reducible refine w_call ?_ | with_reducible refine w_it ?_ | with_reducible refine w_rng1 ?_ | with_reducible refine w_rng2 ?_ | with_reducible refine w_m0 ?_ | with_reducible refine w_m1 ?_ | with_reducible refine w_sl ?_ | with_reducible refine w_part ?_ | with_reducible refine w_noP ?_ | with_reducible refine w_b ?_ | with_reducible refine w_notB ?_ | with_reducible refine w_if ?_ | with_reducible refine w_chain ?_ | with_reducible refine w_zip ?_ | with_reducible refine w_enum ?_ | with_reducible refine wg_add ?_ | with_reducible refine wg_sub ?_ | with_reducible refine wg_neg ?_ | with_reducible refine wg_lt ?_ | with_reducible refine wg_le ?_ | with_reducible refine wg_gt ?_ | with_reducible refine wg_ge ?_ | with_reducible refine wg_not ?_ | with_reducible refine wg_lenL ?_ | with_reducible refine wg_lenT ?_ | with_reducible refine wg_lenC ?_ | with_reducible refine wg_int ?_ | with_reducible refine wg_intB ?_ | with_reducible refine wg_abs ?_ | with_reducible refine wg_max2 ?_ | with_reducible refine wg_min2 ?_ | with_reducible refine wg_reprB ?_ | with_reducible refine wg_itL ?_ | with_reducible refine wg_itT ?_ | with_reducible refine wg_itC ?_ | with_reducible refine wg_itS ?_ | with_reducible refine wg_slL ?_ | with_reducible refine wg_slT ?_ | with_reducible refine wg_tupleL ?_ | with_reducible refine wg_tupleT ?_ | with_reducible refine wg_listL ?_ | with_reducible refine wg_listT ?_ | with_reducible refine wg_revL ?_ | with_reducible refine wg_revT ?_ | with_reducible refine wg_zipT ?_ | with_reducible refine wg_allM ?_ | with_reducible refine wg_anyM ?_ | with_reducible refine w_var (by with_unfolding_all rfl) ?_ | with_reducible refine wg_mul (Or.inr (by decide)) ?_ | with_reducible refine wg_mul (Or.inl (by decide)) ?_ | with_reducible refine wg_mod (by decide +kernel) ?_ | with_reducible refine wg_fdiv (by decide) ?_ | with_reducible refine wg_pow (by decide +kernel) ?_ | with_reducible refine wg_tup (by simp; done) ?_ | with_reducible refine wg_lst (by simp; done) ?_ | with_reducible refine w_dieSet (by decide) ?_ | with_reducible refine w_dieAt (by decide) (fun _ => ?_) | refine ⟨_, rfl, ?_⟩ | refine ⟨rfl, ?_⟩ | with_reducible refine wg_ltI ?_ | with_reducible refine wg_mulAI (Or.inr (by decide)) ?_ | with_reducible refine wg_mulAI (Or.inl (by decide)) ?_ | with_reducible refine w_dieSetP (by decide) ?_ | with_reducible refine w_cF rfl ?_ | with_reducible refine wg_neEI ?_ | with_reducible refine wg_neEB ?_ | with_reducible refine wg_neL ?_ | with_reducible refine wg_neT ?_ | with_reducible refine wg_lenIT ?_ | with_reducible refine wg_lenIL ?_ | with_reducible refine wg_lenIC ?_ | with_reducible refine ws_match ?_ | with_reducible refine ws_parV ?_ | with_reducible refine w_dieAtP (by decide) (fun _ => ?_) | with_reducible refine w_dieSetG hD (by decide) ?_ | with_reducible refine w_dieAtG hD (by decide) (fun _ => ?_)))
    refine wg_mod h0 ?_
    exact ⟨_, rfl, Int.emod_nonneg _ (by omega), Int.emod_lt_of_pos _ h0⟩
theorem got_sub : ∀ {ds ys : List D}, Got_ (fun d o => o = none ∨ o = some d) ds ys → ys.Sublist ds
  | _, _, .nil => List.Sublist.slnil
  | _, _, .skip _ t => (got_sub t).cons _
  | _, _, .take h t => by
    rcases h with h | h
    · cases h
    · cases h; exact (got_sub t).cons₂ _
def SetOk (t : Int) (d : D) : Prop := ∃ ns : List Int, d = .tup (ns.map D.int) ∧ ns ≠ [] ∧ ns.length ≤ 3 ∧ ns.Pairwise (· < ·) ∧ ∀ i ∈ ns, 0 ≤ i ∧ i < t
theorem sub_ints : ∀ {ns : List Int} {ys : List D}, ys.Sublist (ns.map D.int) → ∃ ms : List Int, ys = ms.map D.int ∧ ms.Sublist ns
  | [], ys, h => ⟨[], List.eq_nil_of_sublist_nil h, List.Sublist.slnil⟩
  | n :: ns, ys, h => by
    have h : ys.Sublist (D.int n :: ns.map D.int) := h
    cases h with
    | cons _ h =>
      obtain ⟨ms, e, s⟩ := sub_ints h
      exact ⟨ms, e, s.cons _⟩
    | cons_cons _ h =>
      obtain ⟨ms, e, s⟩ := sub_ints h
      exact ⟨n :: ms, by rw [e]; rfl, s.cons₂ _⟩
section
variable {n : Nat} {X : XP}
theorem w_subset {t : Nat} (h1 : 1 ≤ t) (h3 : t ≤ 3) : Wp (IsDiP n) (F_law_subset [.mut n, .int t]) (fun r => SetOk t r) X := by
  refine w_def rfl ?_
  unfold b_law_subset
  walk_at "STN"
  refine w_comp (fun d o => o = none ∨ o = some d) ?_
  walk_at "STN"
  refine wg_rngN (by omega) ?_
  refine ⟨by rw [rngD_len]; omega, fun d hd => ⟨_, rfl, ?_⟩, fun ys hys => ?_⟩
  · walk_at "STN"
    refine (w_cast (by decide) (by decide)).imp (fun r ⟨i, e, _, _⟩ => ?_) fun _ _ x => x
    subst e
    walk_at "STN"
    refine ⟨fun _ => ?_, fun _ => .inl rfl⟩
    walk_at "STN"
    exact .inr rfl
  · have hs := got_sub hys
    have er : rngD 0 t = ((List.range t).map fun (k : Nat) => (k : Int)).map D.int := by
      unfold rngD
      rw [List.map_map]
      congr 1
      funext k
      show D.int (0 + (k : Int)) = D.int k
      rw [Int.zero_add]
    rw [er] at hs
    obtain ⟨ms, rfl, hm⟩ := sub_ints hs
    have lm : ms.length ≤ t := by have := hm.length_le; rw [List.length_map, List.length_range] at this; exact this
    have pm : ms.Pairwise (· < ·) := by
      refine List.Pairwise.sublist hm ?_
      rw [List.pairwise_map]
      exact List.pairwise_lt_range.imp fun h => by omega
    have im : ∀ i ∈ ms, 0 ≤ i ∧ i < (t : Int) := fun i hi => by
      obtain ⟨k, hk, rfl⟩ := List.mem_map.mp (hm.subset hi)
      have := List.mem_range.mp hk
      omega
    walk_at "STN"
    refine ⟨fun u => ?_, fun u => ?_⟩
    · walk_at "STN"
      exact ⟨fun z => (by subst z; cases u), by omega, pm, im⟩
    · walk_at "STN"
      refine (w_cast (by omega) (by omega)).imp (fun r ⟨i, e, a, b⟩ => ?_) fun _ _ x => x
      subst e
      walk_at "STN"
      exact ⟨[i], rfl, by simp, by simp, List.pairwise_singleton _ _, fun j hj => by rw [List.mem_singleton.mp hj]; exact ⟨a, b⟩⟩
/-! the pool -/
theorem pool_turn {n m : Nat} {ρ : DN.Env} (h0 : ρ[0]? = some (.val (.mut n))) (h2 : ρ[2]? = some (.val (.mut m))) (names : List D) (nm : n ≠ m) (hp : plDs names = true) (hl : names.length ≤ 100) : ∀ (ds : List D) (S : Store) (xs : List D), IsDiP n S → S[m]? = some (.lst xs) → xs.length = ds.length → (∀ x ∈ xs, x ∈ names) → ds.length ≤ 100 → ρ.length = 4 →
    ∃ ys S', compL (bName 3) cYes (cPop (cVar 2) (cCall 2 F_law_cast (cCons (cVar 0) (cCons (cA gLenM (cCons (cVar 2) (cNil))) (cNil))))) ρ ds S = .ok ys S' ∧ IsDiP n S' ∧ ys.length = ds.length ∧ (∀ y ∈ ys, y ∈ names)
  | [], S, xs, i, _, _, _, _, _ => ⟨[], S, rfl, i, rfl, fun _ h => nomatch h⟩
  | d :: ds, S, xs, i, e, hx, sub, hd, h4 => by
    have mem_pl : ∀ {l : List D}, plDs l = true → ∀ x ∈ l, plD x = true := by
      intro l
      induction l with
      | nil => intro _ x hx; cases hx
      | cons a r ih =>
        intro h x hx
        unfold plDs at h
        rw [Bool.and_eq_true] at h
        rcases List.mem_cons.mp hx with rfl | hx
        · exact h.1
        · exact ih h.2 x hx
    have g0 : (ρ.set 3 (Sl.val d))[0]? = some (.val (.mut n)) := by rw [List.getElem?_set_ne (by decide)]; exact h0
    have g2 : (ρ.set 3 (Sl.val d))[2]? = some (.val (.mut m)) := by rw [List.getElem?_set_ne (by decide)]; exact h2
    have hlen : 0 < xs.length := by rw [hx]; exact Nat.succ_pos _
    have lx : (xs.length : Int) < 1073741824 := by rw [hx]; omega
    -- the die is cast; the pool stays as it is
    obtain ⟨r, S1, c1, ⟨k, rfl, k0, k1⟩, i1, e1⟩ : ∃ r S1, F_law_cast [.mut n, .int xs.length] S = .ok r S1 ∧ (∃ k, r = .int k ∧ 0 ≤ k ∧ k < (xs.length : Int)) ∧ IsDiP n S1 ∧ S1[m]? = some (.lst xs) := by
      have hD : DieI n (fun S => IsDiP n S ∧ S[m]? = some (.lst xs)) := ⟨fun S i => i.1.1, fun S a b c i => by
        obtain ⟨⟨⟨a', b', c', e⟩, pl⟩, e2⟩ := i
        have hn : n < S.length := (List.getElem?_eq_some_iff.mp e).1
        exact ⟨⟨⟨a, b, c, List.getElem?_set_self hn⟩, all_set pl (pl_int3 ..)⟩, by rw [List.getElem?_set_ne nm]; exact e2⟩⟩
      obtain ⟨r, S1, c1, h, i1, e1⟩ := (w_castG hD (by omega) lx).run ⟨i, e⟩
      exact ⟨r, S1, c1, h, i1, e1⟩
    have kl : k.toNat < xs.length := by omega
    have hm : m < S1.length := (List.getElem?_eq_some_iff.mp e1).1
    have i2 : IsDiP n (S1.set m (.lst (xs.eraseIdx k.toNat))) := by
      obtain ⟨⟨a, b, c, e⟩, pl⟩ := i1
      refine ⟨⟨a, b, c, by rw [List.getElem?_set_ne (Ne.symm nm)]; exact e⟩, all_set pl ?_⟩
      show plDs (xs.eraseIdx k.toNat) = true
      exact pls_of fun x hx => mem_pl hp x (sub x (List.mem_of_mem_eraseIdx hx))
    obtain ⟨ys, S', c2, i3, l3, s3⟩ := pool_turn h0 h2 names nm hp hl ds _ (xs.eraseIdx k.toNat) i2 (List.getElem?_set_self hm) (by rw [List.length_eraseIdx, if_pos kl, hx]; rfl) (fun x hx => sub x (List.mem_of_mem_eraseIdx hx)) (by rw [List.length_cons] at hd; omega) h4
    refine ⟨xs[k.toNat] :: ys, S', ?_, i3, by rw [List.length_cons, List.length_cons, l3], fun y hy => ?_⟩
    · have ck : (0 ≤ k ∧ k < 1073741824) := ⟨k0, by omega⟩
      have cl : isLc S m = true := by unfold isLc; rw [e]
      have pop : cPop (cVar 2) (cCall 2 F_law_cast (cCons (cVar 0) (cCons (cA gLenM (cCons (cVar 2) (cNil))) (cNil)))) (ρ.set 3 (Sl.val d)) S = .ok xs[k.toNat] (S1.set m (.lst (xs.eraseIdx k.toNat))) := by
        simp only [cPop, bind_run, cVar, g2, cl, if_true, cCall, cA, cCons, cNil, M.pure, g0, gLenM, e, List.length_cons, List.length_nil, Nat.reduceAdd, c1, gPop, e1, ck, and_self, List.getElem?_eq_getElem kl]
      simp only [compL, bName, bind_run, cYes, M.pure, if_true, pop, c2]
    · rcases List.mem_cons.mp hy with rfl | hy
      · exact sub _ (List.getElem_mem kl)
      · exact s3 y hy
theorem rng1_at {j : Int} (h : -(2 ^ 62) ≤ j ∧ j < 2 ^ 62) : rng1 (.int j) = M.pure (rngD 0 j.toNat) := by
  unfold rng1
  dsimp only
  rw [if_pos h]
theorem rng_run {fa : DN.Env → M D} {ρ : DN.Env} {S S1 : Store} {d : D} {ds : List D} (a1 : fa ρ S = .ok d S1) (er : rng1 d = M.pure ds) : cRng1 fa ρ S = .ok ds S1 := by
  unfold cRng1
  rw [bind_run, a1]
  show rng1 d S1 = _
  rw [er]
  rfl
theorem runF_rt {n m : Nat} {body : Sm} {ds : List D} {S S' : Store} {d : D} {ρ : DN.Env} (e : ds.length = n) (h : body (ds.map Sl.val ++ List.replicate (m - n) Sl.un) S = .go (.rt d) ρ S') : runF n m body ds S = .ok d S' := by
  unfold runF
  rw [if_pos e, h]
abbrev shEnv (n m : Nat) (names : List D) : DN.Env := [Sl.val (.mut n), .val (.lst names), .val (.mut m), .un]
abbrev shPop : DN.Env → M D := cPop (cVar 2) (cCall 2 F_law_cast (cCons (cVar 0) (cCons (cA gLenM (cCons (cVar 2) cNil)) cNil)))
theorem sh_f1 {names : List D} {S : Store} : cAsg (cA gListM (cCons (cVar 1) cNil)) (bName 2) [Sl.val (.mut n), .val (.lst names), .un, .un] S = .go .nx (shEnv n S.length names) (S ++ [.lst names]) := rfl
theorem sh_a1 {names : List D} {m : Nat} {S : Store} : cA gLen (cCons (cVar 1) cNil) (shEnv n m names) S = .ok (.int (names.length : Int)) S := rfl
theorem sh_er {k : Nat} (h : k ≤ 16777216) : rng1 (.int (k : Int)) = M.pure (rngD 0 k) := by
  rw [rng1_at (rng_fits h), Int.toNat_natCast]
theorem sh_f2 {names : List D} {m : Nat} {S : Store} (h : names.length ≤ 16777216) : cRng1 (cA gLen (cCons (cVar 1) cNil)) (shEnv n m names) S = .ok (rngD 0 names.length) S := rng_run sh_a1 (sh_er h)
theorem sh_w {names : List D} {m : Nat} : wipeE (shEnv n m names) [3] = shEnv n m names := rfl
theorem sh_comp {fi : DN.Env → M (List D)} {b : Bd} {t : DN.Env → M Bool} {f : DN.Env → M D} {vs : List Nat} {ρ ρ' : DN.Env} {ds ys : List D} {S S1 S' : Store} (h1 : fi ρ S = .ok ds S1) (hc : ds.length ≤ 16777216) (hw : wipeE ρ vs = ρ') (h2 : compL b t f ρ' ds S1 = .ok ys S') : cComp fi b t f vs ρ S = .ok (.lst ys) S' := by
  subst hw
  unfold cComp
  rw [bind_run, h1]
  dsimp only
  rw [if_pos hc, bind_run]
  unfold noX
  rw [h2]
  rfl
theorem sh_body {fa : Sm} {fc : DN.Env → M D} {ρ ρ' : DN.Env} {S S1 S' : Store} {d : D} (h1 : fa ρ S = .go .nx ρ' S1) (h2 : fc ρ' S1 = .ok d S') : cSeq fa (cRet fc) ρ S = .go (.rt d) ρ' S' := by
  unfold cSeq
  rw [h1]
  dsimp only
  unfold cRet
  rw [h2]
  rfl
theorem shuffle_run {names : List D} (hp : plDs names = true) (hl : names.length ≤ 100) (S : Store) (i : IsDiP n S) : ∃ ys S', F_law_shuffle [.mut n, .lst names] S = .ok (.lst ys) S' ∧ IsDiP n S' ∧ ys.length = names.length ∧ ∀ y ∈ ys, y ∈ names := by
  have hn : n < S.length := by
    obtain ⟨⟨a, b, c, e⟩, _⟩ := i
    exact (List.getElem?_eq_some_iff.mp e).1
  have i1 : IsDiP n (S ++ [.lst names]) := by
    obtain ⟨⟨a, b, c, e⟩, pl⟩ := i
    refine ⟨⟨a, b, c, by rw [List.getElem?_append_left hn]; exact e⟩, ?_⟩
    rw [List.all_append, pl]
    show (true && (plDs names && true)) = true
    rw [hp]; rfl
  have e1 : (S ++ [Cell.lst names])[S.length]? = some (.lst names) := by rw [List.getElem?_append_right (Nat.le_refl _), Nat.sub_self]; rfl
  have rl : (rngD 0 names.length).length = names.length := rngD_len 0 names.length
  obtain ⟨ys, S', c, i2, l2, s2⟩ := pool_turn (n := n) (m := S.length) (ρ := shEnv n S.length names) rfl rfl names (Nat.ne_of_lt hn) hp hl (rngD 0 names.length) _ names i1 e1 rl.symm (fun _ h => h) (by rw [rl]; exact hl) rfl
  rw [rl] at l2
  have f3 := sh_comp (vs := [3]) (sh_f2 (n := n) (m := S.length) (S := S ++ [.lst names]) (show names.length ≤ 16777216 by omega)) (by rw [rl]; omega) sh_w c
  exact ⟨ys, S', runF_rt rfl (sh_body sh_f1 f3), i2, l2, s2⟩
theorem Wp_of_run {α : Type} {I : Store → Prop} {m : M α} {P : α → Prop} {X : XP} (h : ∀ S, I S → ∃ a S', m S = .ok a S' ∧ I S' ∧ P a) : Wp I m P X := Wp.mk fun S i => by
  obtain ⟨a, S', e, i2, p⟩ := h S i
  rw [e]
  exact ⟨p, i2⟩
theorem w_shuffle {names : List D} (hp : plDs names = true) (hl : names.length ≤ 100) : Wp (IsDiP n) (F_law_shuffle [.mut n, .lst names]) (fun r => ∃ ys, r = .lst ys ∧ ys.length = names.length ∧ ∀ y ∈ ys, y ∈ names) X :=
  Wp_of_run fun S i => let ⟨ys, S', run, i2, l2, s2⟩ := shuffle_run hp hl S i; ⟨.lst ys, S', run, i2, ys, rfl, l2, s2⟩
end
end K10
/-! K10w: bent tuples and moves. -/
namespace K10
open PySem PySem.Spec PyProof.Rows L2 DN KB
local macro_rules | `(tactic| walk_at "STN") => `(tactic| (repeat (first | with_reducible refine ws_seq ?_ | with_reducible refine ws_asg ?_ | with_reducible refine ws_ret ?_ | with_reducible refine ws_if ?_ | with_reducible refine ws_next ?_ | with_reducible refine ws_retN ?_ | with_reducible refine ws_brk ?_ | with_reducible refine ws_cont ?_ | with_reducible refine ws_drop ?_ | with_reducible refine ws_setI ?_ | with_reducible refine ws_for ?_ | with_reducible refine ws_par ?_ | with_reducible refine ws_frz ?_ | with_reducible refine ws_parO ?_ | with_reducible refine ws_setOwn ?_ | with_reducible refine ⟨fun _ => ?_, fun z => absurd rfl z⟩ | refine And.intro rt_nx fun _ => ?_ | refine And.intro bk_nx fun _ => ?_ | refine And.intro ct_nx fun _ => ?_ | with_reducible refine w_c2 ?_ | with_reducible refine w_c1 ?_ | with_reducible refine w_cA ?_ | with_reducible refine w_cons ?_ | with_reducible refine w_nil ?_ | with_reducible refine w_c ?_ | with_reducible refine w_call ?_ | with_reducible refine w_it ?_ | with_reducible refine w_rng1 ?_ | with_reducible refine w_rng2 ?_ | with_reducible refine w_m0 ?_ | with_reducible refine w_m1 ?_ | with_reducible refine w_sl ?_ | with_reducible refine w_part ?_ | with_reducible refine w_noP ?_ | with_reducible refine w_b ?_ | with_reducible refine w_notB ?_ | with_reducible refine w_if ?_ | with_reducible refine w_chain ?_ | with_reducible refine w_zip ?_ | with_reducible refine w_enum ?_ | with_reducible refine wg_add ?_ | with_reducible refine wg_sub ?_ | with_reducible refine wg_neg ?_ | with_reducible refine wg_lt ?_ | with_reducible refine wg_le ?_ | with_reducible refine wg_gt ?_ | with_reducible refine wg_ge ?_ | with_reducible refine wg_not ?_ | with_reducible refine wg_lenL ?_ | with_reducible refine wg_lenT ?_ | with_reducible refine wg_lenC ?_ | with_reducible refine wg_int ?_ | with_reducible refine wg_intB ?_ | with_reducible refine wg_abs ?_ | with_reducible refine wg_max2 ?_ | with_reducible refine wg_min2 ?_ | with_reducible refine wg_reprB ?_ | with_reducible refine wg_itL ?_ | with_reducible refine wg_itT ?_ | with_reducible refine wg_itC ?_ | with_reducible refine wg_itS ?_ | with_reducible refine wg_slL ?_ | with_reducible refine wg_slT ?_ | with_reducible refine wg_tupleL ?_ | with_reducible refine wg_tupleT ?_ | with_reducible refine wg_listL ?_ | with_reducible refine wg_listT ?_ | with_reducible refine wg_revL ?_ | with_reducible refine wg_revT ?_ | with_reducible refine wg_zipT ?_ | with_reducible refine wg_allM ?_ | with_reducible refine wg_anyM ?_ | with_reducible refine w_var (by with_unfolding_all rfl) ?_ | with_reducible refine wg_mul (Or.inr (by decide)) ?_ | with_reducible refine wg_mul (Or.inl (by decide)) ?_ | with_reducible refine wg_mod (by decide +kernel) ?_ | with_reducible refine wg_fdiv (by decide) ?_ | with_reducible refine wg_pow (by decide +kernel) ?_ | with_reducible refine wg_tup (by simp; done) ?_ | with_reducible refine wg_lst (by simp; done) ?_ | with_reducible refine w_dieSet (by decide) ?_ | with_reducible refine w_dieAt (by decide) (fun _ => ?_) | refine ⟨_, rfl, ?_⟩ | refine ⟨rfl, ?_⟩ | with_reducible refine wg_ltI ?_ | with_reducible refine wg_mulAI (Or.inr (by decide)) ?_ | with_reducible refine wg_mulAI (Or.inl (by decide)) ?_ | with_reducible refine w_dieSetP (by decide) ?_ | with_reducible refine w_cF rfl ?_ | with_reducible refine wg_neEI ?_ | with_reducible refine wg_neEB ?_ | with_reducible refine wg_neL ?_ | with_reducible refine wg_neT ?_ | with_reducible refine wg_lenIT ?_ | with_reducible refine wg_lenIL ?_ | with_reducible refine wg_lenIC ?_ | with_reducible refine ws_match ?_ | with_reducible refine ws_parV ?_ | with_reducible refine w_dieAtP (by decide) (fun _ => ?_))))
section
variable {n : Nat} {X : XP}
theorem w_bent_tuple {m : Nat} {xs : List D} {odd : D} (hl : xs.length + 1 ≤ bnd m) (hx : ∀ x ∈ xs, finD m x = true) (ho : finD m odd = true) : Wp (IsDiP n) (F_law_bent_tuple [.mut n, .tup xs, odd]) (fun r => finD (m + 1) r = true) X := by
  have hb := bnd40 m
  have ok : ∀ ys : List D, ys.length ≤ xs.length + 1 → (∀ y ∈ ys, y ∈ xs ∨ y = odd) → finD (m + 1) (.tup ys) = true ∧ finD (m + 1) (.lst ys) = true := fun ys h1 h2 => by
    have h3 : ∀ y ∈ ys, finD m y = true := fun y hy => by
      rcases h2 y hy with h | h
      · exact hx y h
      · rw [h]; exact ho
    exact ⟨fin_tup.mpr ⟨by omega, h3⟩, fin_lst.mpr ⟨by omega, h3⟩⟩
  refine w_def rfl ?_
  unfold b_law_bent_tuple
  refine ws_seq (ws_asg (Wp.imp (P := fun d => ∃ k : Nat, d = .int (k : Int) ∧ k ≤ xs.length) (X := X) ?_ (fun d ⟨k, e, hk⟩ => ?_) fun _ _ x => x))
  · walk_at "STN"
    refine ⟨fun u => ?_, fun _ => ?_⟩
    · have h0 : 0 < xs.length := by
        cases xs with
        | nil => cases u
        | cons _ _ => exact Nat.succ_pos _
      walk_at "STN"
      refine (w_cast (by omega) (by omega)).imp (fun d ⟨r, e, a, b⟩ => ⟨r.toNat, ?_, by omega⟩) fun _ _ x => x
      rw [e, Int.toNat_of_nonneg a]
    · walk_at "STN"
      exact Nat.zero_le _
  · subst e
    have c1 : cutD xs none (some (k : Int)) = xs.take k := cutD_take xs rfl
    have c2 : cutD xs (some ((k : Int) + 1)) none = xs.drop (k + 1) := cutD_drop xs (by omega)
    have c3 : cutD xs none (some ((k : Int) + 1)) = xs.take (k + 1) := cutD_take xs (by omega)
    have c4 : cutD xs (some (k : Int)) none = xs.drop k := cutD_drop xs rfl
    refine ⟨_, rfl, fun _ => ?_, fun z => absurd rfl z⟩
    walk_at "STN"
    rw [c1]
    refine wg_addT (by simp only [List.length_take, List.length_cons, List.length_nil]; omega) ?_
    walk_at "STN"
    rw [c2]
    refine wg_addT (by simp only [List.length_append, List.length_drop, List.length_take, List.length_cons, List.length_nil]; omega) ?_
    walk_at "STN"
    refine ⟨by simp, ⟨fun _ => ?_, fun z => absurd rfl z⟩⟩
    refine ws_seq (ws_app (xs := [.tup ((xs.take k ++ [odd]) ++ xs.drop (k + 1))]) (by rfl) (by simp) ?_)
    walk_at "STN"
    rw [c1, c2]
    refine wg_addT (by simp only [List.length_take, List.length_drop]; omega) ?_
    refine ⟨fun _ => ?_, fun z => absurd rfl z⟩
    walk_at "STN"
    rw [c3, c4]
    refine wg_addT (by simp only [List.length_take, List.length_drop]; omega) ?_
    walk_at "STN"
    refine wg_addL (by simp) ?_
    walk_at "STN"
    refine wg_addT (by simp only [List.length_cons, List.length_nil]; omega) ?_
    walk_at "STN"
    refine wg_addT (by simp only [List.length_cons, List.length_nil]; omega) ?_
    walk_at "STN"
    refine wg_addL (by simp) ?_
    walk_at "STN"
    refine (w_pickL (by simp) (by simp)).imp (fun r hr => ?_) fun _ _ x => x
    have mt : ∀ {y : D} {j : Nat}, y ∈ xs.take j → y ∈ xs := fun h => List.mem_of_mem_take h
    have md : ∀ {y : D} {j : Nat}, y ∈ xs.drop j → y ∈ xs := fun h => List.mem_of_mem_drop h
    simp only [List.cons_append, List.nil_append, List.append_assoc, List.mem_cons, List.not_mem_nil, or_false] at hr
    rcases hr with h | h | h | h | h | h | h | h <;> subst h
    · refine (ok _ ?_ fun y hy => ?_).1
      · simp only [List.length_append, List.length_drop, List.length_take, List.length_cons, List.length_nil]; omega
      · simp only [List.mem_append, List.mem_cons, List.not_mem_nil, or_false] at hy
        rcases hy with h | h | h
        · exact .inl (mt h)
        · exact .inr h
        · exact .inl (md h)
    · refine (ok _ ?_ fun y hy => ?_).1
      · simp only [List.length_append, List.length_drop, List.length_take]; omega
      · rcases List.mem_append.mp hy with h | h
        · exact .inl (mt h)
        · exact .inl (md h)
    · refine (ok _ ?_ fun y hy => ?_).1
      · simp only [List.length_append, List.length_drop, List.length_take]; omega
      · rcases List.mem_append.mp hy with h | h
        · exact .inl (mt h)
        · exact .inl (md h)
    · refine (ok _ ?_ fun y hy => ?_).1
      · rw [List.length_reverse]; omega
      · exact .inl (List.mem_reverse.mp hy)
    · exact (ok _ (by omega) fun y hy => .inl hy).2
    · refine (ok _ ?_ fun y hy => ?_).1
      · simp only [List.length_append, List.length_cons, List.length_nil]; omega
      · simp only [List.mem_append, List.mem_cons, List.not_mem_nil, or_false] at hy
        exact hy
    · refine (ok _ ?_ fun y hy => ?_).1
      · simp only [List.length_cons]; omega
      · rcases List.mem_cons.mp hy with h | h
        · exact .inr h
        · exact .inl h
    · exact fin_up _ ho
theorem odd_fin : ∀ d ∈ oddL, finD 2 d = true := by
  intro d hd
  have h : oddL.all (finD 2) = true := by decide +kernel
  exact List.all_eq_true.mp h d hd
theorem w_bent_move {ys : List D} (h0 : 0 < ys.length) (h5 : ys.length ≤ 5) (hy : ∀ y ∈ ys, finD 2 y = true) (ht : ∀ zs, .tup zs ∈ ys → zs.length ≤ 3) : Wp (IsDiP n) (F_law_bent_move [.mut n, .tup ys]) (fun r => finD 4 r = true) X := by
  refine w_def rfl ?_
  unfold b_law_bent_move
  walk_at "STN"
  refine (w_cast (by omega) (by omega)).imp (fun d ⟨r, e, a, b⟩ => ?_) fun _ _ x => x
  subst e
  obtain ⟨y, e, e2⟩ := at_some (xs := ys) a (by omega)
  have hm := List.mem_of_getElem? e2
  walk_at "STN"
  refine w_odd.imp (fun odd ho => ?_) fun _ _ x => x
  have fo := odd_fin odd ho
  walk_at "STN"
  refine ⟨_, _, rfl, fun _ => ?_, fun z => absurd rfl z⟩
  walk_at "STN"
  refine w_andB ?_
  walk_at "STN"
  refine wg_ixT e ?_
  walk_at "STN"
  refine wg_isTuple (fin_ty (hy y hm)) ?_
  walk_at "STN"
  refine ⟨fun q => ?_, fun q => ?_⟩
  · cases y with
    | tup zs =>
      walk_at "STN"
      refine (w_cast (by decide) (by decide)).imp (fun d ⟨i, e', _, _⟩ => ?_) fun _ _ x => x
      subst e'
      walk_at "STN"
      refine wg_eqN (eqN_int _ _) ?_
      refine ⟨_, rfl, fun u => ?_, fun u => ?_⟩
      · walk_at "STN"
        refine wg_ixT e ?_
        walk_at "STN"
        have f := fin_tup.mp (hy _ hm)
        refine (w_bent_tuple (m := 2) (by have := ht zs hm; show zs.length + 1 ≤ 4; omega) (fun z hz => fin_up _ (f.2 z hz)) fo).imp (fun bent hb => ?_) fun _ _ x => x
        walk_at "STN"
        have kr : r = (r.toNat : Int) := (Int.toNat_of_nonneg a).symm
        have c1 : cutD ys none (some r) = ys.take r.toNat := cutD_take ys kr
        have c2 : cutD ys (some (r + 1)) none = ys.drop (r.toNat + 1) := cutD_drop ys (by omega)
        rw [c1]
        refine wg_addT (by simp only [List.length_take, List.length_cons, List.length_nil]; omega) ?_
        walk_at "STN"
        rw [c2]
        refine wg_addT (by simp only [List.length_append, List.length_drop, List.length_take, List.length_cons, List.length_nil]; omega) ?_
        refine ⟨fun z => (nomatch z), fun _ => ?_⟩
        refine fin_tup.mpr ⟨?_, fun y hy2 => ?_⟩
        · show _ ≤ 6
          simp only [List.length_append, List.length_drop, List.length_take, List.length_cons, List.length_nil]; omega
        · simp only [List.mem_append, List.mem_cons, List.not_mem_nil, or_false] at hy2
          rcases hy2 with (h | h) | h
          · exact fin_up _ (hy y (List.mem_of_mem_take h))
          · rw [h]; exact hb
          · exact fin_up _ (hy y (List.mem_of_mem_drop h))
      · walk_at "STN"
        exact w_bent_tuple (m := 3) (by show ys.length + 1 ≤ 6; omega) (fun y h => fin_up _ (hy y h)) (fin_up _ fo)
    | _ => cases q
  · refine ⟨fun z => (nomatch z), fun _ => ?_⟩
    walk_at "STN"
    exact w_bent_tuple (m := 3) (by show ys.length + 1 ≤ 6; omega) (fun y h => fin_up _ (hy y h)) (fin_up _ fo)
end
end K10
/-! K10x: drawn moves and drawn plain programs. -/
namespace SO
theorem insS_len (k : List Int) : ∀ xs : List (List Int), (insS k xs).length ≤ xs.length + 1 ∧ 1 ≤ (insS k xs).length
  | [] => ⟨Nat.le_refl 1, Nat.le_refl 1⟩
  | x :: xs => by
    have ih := insS_len k xs
    unfold insS
    split
    · exact ⟨Nat.le_refl _, Nat.succ_pos _⟩
    · split
      · exact ⟨Nat.le_succ _, Nat.succ_pos _⟩
      · exact ⟨Nat.succ_le_succ ih.1, Nat.succ_pos _⟩
theorem sortS_len : ∀ ks : List (List Int), (sortS ks).length ≤ ks.length
  | [] => Nat.le_refl 0
  | k :: ks => Nat.le_trans (insS_len k (sortS ks)).1 (Nat.succ_le_succ (sortS_len ks))
theorem sortS_pos : ∀ ks : List (List Int), 1 ≤ ks.length → 1 ≤ (sortS ks).length
  | [], h => absurd h (by decide)
  | k :: ks, _ => (insS_len k (sortS ks)).2
end SO
namespace K10
open PySem PySem.Spec PyProof.Rows L2 DN KB
local macro_rules | `(tactic| walk_at "STN") => `(tactic| (repeat (first | with_reducible refine ws_seq ?_ | with_reducible refine ws_asg ?_ | with_reducible refine ws_ret ?_ | with_reducible refine ws_if ?_ | with_reducible refine ws_next ?_ | with_reducible refine ws_retN ?_ | with_reducible refine ws_brk ?_ | with_reducible refine ws_cont ?_ | with_reducible refine ws_drop ?_ | with_reducible refine ws_setI ?_ | with_reducible refine ws_for ?_ | with_reducible refine ws_par ?_ | with_reducible refine ws_frz ?_ | with_reducible refine ws_parO ?_ | with_reducible refine ws_setOwn ?_ | with_reducible refine ⟨fun _ => ?_, fun z => absurd rfl z⟩ | refine And.intro rt_nx fun _ => ?_ | refine And.intro bk_nx fun _ => ?_ | refine And.intro ct_nx fun _ => ?_ | with_reducible refine w_c2 ?_ | with_reducible refine w_c1 ?_ | with_reducible refine w_cA ?_ | with_reducible refine w_cons ?_ | with_reducible refine w_nil ?_ | with_reducible refine w_c ?_ | with_reducible refine w_call ?_ | with_reducible refine w_it ?_ | with_reducible refine w_rng1 ?_ | with_reducible refine w_rng2 ?_ | with_reducible refine w_m0 ?_ | with_reducible refine w_m1 ?_ | with_reducible refine w_sl ?_ | with_reducible refine w_part ?_ | with_reducible refine w_noP ?_ | with_reducible refine w_b ?_ | with_reducible refine w_notB ?_ | with_reducible refine w_if ?_ | with_reducible refine w_chain ?_ | with_reducible refine w_zip ?_ | with_reducible refine w_enum ?_ | with_reducible refine wg_add ?_ | with_reducible refine wg_sub ?_ | with_reducible refine wg_neg ?_ | with_reducible refine wg_lt ?_ | with_reducible refine wg_le ?_ | with_reducible refine wg_gt ?_ | with_reducible refine wg_ge ?_ | with_reducible refine wg_not ?_ | with_reducible refine wg_lenL ?_ | with_reducible refine wg_lenT ?_ | with_reducible refine wg_lenC ?_ | with_reducible refine wg_int ?_ | with_reducible refine wg_intB ?_ | with_reducible refine wg_abs ?_ | with_reducible refine wg_max2 ?_ | with_reducible refine wg_min2 ?_ | with_reducible refine wg_reprB ?_ | with_reducible refine wg_itL ?_ | with_reducible refine wg_itT ?_ | with_reducible refine wg_itC ?_ | with_reducible refine wg_itS ?_ | with_reducible refine wg_slL ?_ | with_reducible refine wg_slT ?_ | with_reducible refine wg_tupleL ?_ | with_reducible refine wg_tupleT ?_ | with_reducible refine wg_listL ?_ | with_reducible refine wg_listT ?_ | with_reducible refine wg_revL ?_ | with_reducible refine wg_revT ?_ | with_reducible refine wg_zipT ?_ | with_reducible refine wg_allM ?_ | with_reducible refine wg_anyM ?_ | with_reducible refine w_var (by with_unfolding_all rfl) ?_ | with_reducible refine wg_mul (Or.inr (by decide)) ?_ | with_reducible refine wg_mul (Or.inl (by decide)) ?_ | with_reducible refine wg_mod (by decide +kernel) ?_ | with_reducible refine wg_fdiv (by decide) ?_ | with_reducible refine wg_pow (by decide +kernel) ?_ | with_reducible refine wg_tup (by simp; done) ?_ | with_reducible refine wg_lst (by simp; done) ?_ | with_reducible refine w_dieSet (by decide) ?_ | with_reducible refine w_dieAt (by decide) (fun _ => ?_) | refine ⟨_, rfl, ?_⟩ | refine ⟨rfl, ?_⟩ | with_reducible refine wg_ltI ?_ | with_reducible refine wg_mulAI (Or.inr (by decide)) ?_ | with_reducible refine wg_mulAI (Or.inl (by decide)) ?_ | with_reducible refine w_dieSetP (by decide) ?_ | with_reducible refine w_cF rfl ?_ | with_reducible refine wg_neEI ?_ | with_reducible refine wg_neEB ?_ | with_reducible refine wg_neL ?_ | with_reducible refine wg_neT ?_ | with_reducible refine wg_lenIT ?_ | with_reducible refine wg_lenIL ?_ | with_reducible refine wg_lenIC ?_ | with_reducible refine ws_match ?_ | with_reducible refine ws_parV ?_ | with_reducible refine w_dieAtP (by decide) (fun _ => ?_))))
def DrawnM (p : Int) (d : D) : Prop := stepB p d = true ∧ ∃ ys, d = .tup ys ∧ 0 < ys.length ∧ ys.length ≤ 5 ∧ (∀ y ∈ ys, finD 2 y = true) ∧ ∀ zs, .tup zs ∈ ys → zs.length ≤ 3
def nameL : List D := [.str "main", .str "p", .str "q"]
theorem name_ok {d : D} (h : d ∈ nameL) : wordB d = true ∧ finD 2 d = true ∧ ∀ zs, d ≠ .tup zs := by
  unfold nameL at h
  simp only [List.mem_cons, List.not_mem_nil, or_false] at h
  rcases h with h | h | h <;> subst h <;> exact ⟨by decide +kernel, by decide +kernel, fun _ z => nomatch z⟩
theorem fin_i {m : Nat} {i : Int} (h0 : 0 ≤ i) (h1 : i ≤ 99) : finD m (.int i) = true := by
  refine fin_le (n := 0) ?_ (Nat.zero_le _)
  show ((decide (-1 ≤ i) && decide (i ≤ 99)) || _) = true
  rw [decide_eq_true (show -1 ≤ i by omega), decide_eq_true h1]; rfl
theorem num_i {k i : Int} (h0 : 0 ≤ i) (h1 : i < k) : isNum k (.int i) = true := by
  show (decide (0 ≤ i) && decide (i < k)) = true
  rw [decide_eq_true h0, decide_eq_true h1]; rfl
theorem set_ok {t : Nat} {d : D} (ht : t ≤ 3) (h : SetOk t d) : setB 5 d = true ∧ finD 2 d = true ∧ ∀ zs, d = .tup zs → zs.length ≤ 3 := by
  obtain ⟨ns, rfl, h0, h3, hp, hi⟩ := h
  refine ⟨?_, fin_tup.mpr ⟨?_, ?_⟩, ?_⟩
  · show (!(ns.map D.int).isEmpty && ((ns.map D.int).all (isNum 5) && ascD (ns.map D.int))) = true
    have a : (ns.map D.int).all (isNum 5) = true := by
      rw [List.all_eq_true]
      intro x hx
      obtain ⟨i, hi2, rfl⟩ := List.mem_map.mp hx
      have := hi i hi2
      exact num_i this.1 (by omega)
    rw [a, ascI_pw ns |>.mpr hp]
    cases ns with
    | nil => exact absurd rfl h0
    | cons _ _ => rfl
  · rw [List.length_map]; show ns.length ≤ 4; omega
  · intro x hx
    obtain ⟨i, hi2, rfl⟩ := List.mem_map.mp hx
    have := hi i hi2
    exact fin_i this.1 (by omega)
  · intro zs e
    cases e
    rw [List.length_map]; exact h3
theorem gl : isS (.str "go") "leave" = false ∧ isS (.str "go") "go" = true ∧ isS (.str "leave") "leave" = true ∧ isS (.str "call") "leave" = false ∧ isS (.str "call") "go" = false ∧ isS (.str "call") "call" = true ∧ isS (.str "post") "leave" = false ∧ isS (.str "post") "go" = false ∧ isS (.str "post") "post" = true := by decide +kernel
theorem word_fin : finD 2 (.str "go") = true ∧ finD 2 (.str "leave") = true ∧ finD 2 (.str "call") = true ∧ finD 2 (.str "post") = true := by decide +kernel
theorem drawn_cp {p here there : Int} {kind name some : D} {t : Nat} (ht : t ≤ 3) (hp : p ≤ 3) (hk : kind = .str "call" ∨ kind = .str "post") (h1 : 0 ≤ here ∧ here < p) (h2 : 0 ≤ there ∧ there < p) (hn : name ∈ nameL) (hs : SetOk t some) : DrawnM p (.tup [kind, .int here, .int there, name, some]) := by
  obtain ⟨s1, s2, s3⟩ := set_ok ht hs
  obtain ⟨n1, n2, n3⟩ := name_ok hn
  obtain ⟨_, _, _, c1, c2, c3, p1, p2, p3⟩ := gl
  obtain ⟨_, _, w3, w4⟩ := word_fin
  refine ⟨?_, _, rfl, Nat.succ_pos _, Nat.le_refl 5, fun y hy => ?_, fun zs hz => ?_⟩
  · have e : cpB [name, some] = true := by
      show (wordB name && setB 5 some) = true
      rw [n1, s1]; rfl
    rw [step_eq, num_i h1.1 h1.2, num_i h2.1 h2.2, e]
    rcases hk with rfl | rfl
    · rw [c1, c2, c3]; rfl
    · rw [p1, p2, p3, Bool.or_true]; rfl
  · simp only [List.mem_cons, List.not_mem_nil, or_false] at hy
    rcases hy with h | h | h | h | h <;> subst h
    · rcases hk with rfl | rfl <;> assumption
    · exact fin_i h1.1 (by omega)
    · exact fin_i h2.1 (by omega)
    · exact n2
    · exact s2
  · simp only [List.mem_cons, List.not_mem_nil, or_false] at hz
    rcases hz with h | h | h | h | h
    · rcases hk with rfl | rfl <;> cases h
    · cases h
    · cases h
    · exact absurd h.symm (n3 zs)
    · exact s3 zs h.symm
theorem drawn_lv {p here : Int} {some : D} {t : Nat} (ht : t ≤ 3) (hp : p ≤ 3) (h1 : 0 ≤ here ∧ here < p) (hs : SetOk t some) : DrawnM p (.tup [.str "leave", .int here, some]) := by
  obtain ⟨s1, s2, s3⟩ := set_ok ht hs
  obtain ⟨_, _, l1, _⟩ := gl
  obtain ⟨_, w2, _, _⟩ := word_fin
  refine ⟨?_, _, rfl, Nat.succ_pos _, by show 3 ≤ 5; decide, fun y hy => ?_, fun zs hz => ?_⟩
  · rw [step_eq, num_i h1.1 h1.2, l1, s1]; rfl
  · simp only [List.mem_cons, List.not_mem_nil, or_false] at hy
    rcases hy with h | h | h <;> subst h
    · exact w2
    · exact fin_i h1.1 (by omega)
    · exact s2
  · simp only [List.mem_cons, List.not_mem_nil, or_false] at hz
    rcases hz with h | h | h
    · cases h
    · cases h
    · exact s3 zs h.symm
theorem drawn_go {p here there : Int} {ks : List (List Int)} {t : Nat} (ht : t ≤ 3) (hp : p ≤ 3) (h1 : 0 ≤ here ∧ here < p) (h2 : 0 ≤ there ∧ there < p) (k1 : 1 ≤ ks.length) (k3 : ks.length ≤ 3) (hk : ∀ q ∈ ks, ∃ i j : Int, q = [i, j] ∧ 0 ≤ i ∧ i < t ∧ 0 ≤ j ∧ j < t) : DrawnM p (.tup [.str "go", .int here, .int there, .tup (tupsI (SO.sortS ks))]) := by
  obtain ⟨g1, g2, _⟩ := gl
  obtain ⟨w1, _⟩ := word_fin
  have l1 := SO.sortS_pos ks k1
  have l3 := SO.sortS_len ks
  have hm : ∀ q ∈ SO.sortS ks, ∃ i j : Int, q = [i, j] ∧ 0 ≤ i ∧ i < t ∧ 0 ≤ j ∧ j < t := fun q hq => hk q (SO.mem_sortS.mp hq)
  have len : (tupsI (SO.sortS ks)).length ≤ 3 := by unfold tupsI; rw [List.length_map]; omega
  refine ⟨?_, _, rfl, Nat.succ_pos _, by show 4 ≤ 5; decide, fun y hy => ?_, fun zs hz => ?_⟩
  · have e : goB [.tup (tupsI (SO.sortS ks))] = true := by
      show (!(tupsI (SO.sortS ks)).isEmpty && ((tupsI (SO.sortS ks)).all (pairB 5) && ascD (tupsI (SO.sortS ks)))) = true
      have a : (tupsI (SO.sortS ks)).all (pairB 5) = true := by
        rw [List.all_eq_true]
        intro x hx
        obtain ⟨q, hq, rfl⟩ := List.mem_map.mp hx
        obtain ⟨i, j, rfl, a, b, c, d⟩ := hm q hq
        show (isNum 5 (.int i) && isNum 5 (.int j)) = true
        rw [num_i a (by omega), num_i c (by omega)]; rfl
      rw [a, (ascT_pw _).mpr (SO.asc_sortS ks)]
      cases q : SO.sortS ks with
      | nil => rw [q] at l1; exact absurd l1 (by decide)
      | cons _ _ => rfl
    rw [step_eq, num_i h1.1 h1.2, num_i h2.1 h2.2, e, g1, g2]; rfl
  · simp only [List.mem_cons, List.not_mem_nil, or_false] at hy
    rcases hy with h | h | h | h <;> subst h
    · exact w1
    · exact fin_i h1.1 (by omega)
    · exact fin_i h2.1 (by omega)
    · refine fin_tup.mpr ⟨by show _ ≤ 4; omega, fun x hx => ?_⟩
      obtain ⟨q, hq, rfl⟩ := List.mem_map.mp hx
      obtain ⟨i, j, rfl, a, b, c, d⟩ := hm q hq
      refine fin_tup.mpr ⟨by show 2 ≤ 4; decide, fun x hx => ?_⟩
      have hx : x ∈ [D.int i, D.int j] := hx
      simp only [List.mem_cons, List.not_mem_nil, or_false] at hx
      rcases hx with h | h <;> subst h
      · exact fin_i a (by omega)
      · exact fin_i c (by omega)
  · simp only [List.mem_cons, List.not_mem_nil, or_false] at hz
    rcases hz with h | h | h | h
    · cases h
    · cases h
    · cases h
    · cases h; exact len
section
variable {n : Nat} {X : XP}
theorem w_a_move {t p : Nat} {nl : List D} (t1 : 1 ≤ t) (t3 : t ≤ 3) (p1 : 1 ≤ p) (p3 : p ≤ 3) (n1 : 1 ≤ nl.length) (n3 : nl.length ≤ 3) (hn : ∀ x ∈ nl, x ∈ nameL) : Wp (IsDiP n) (F_law_a_move [.mut n, .int t, .int p, .lst nl]) (fun r => DrawnM p r) X := by
  refine w_def rfl ?_
  unfold b_law_a_move
  walk_at "STN"
  refine (w_cast (by omega) (by omega)).imp (fun d ⟨h, e, a, b⟩ => ?_) fun _ _ x => x
  subst e
  walk_at "STN"
  refine (w_pickL (by simp) (by simp)).imp (fun d hd => ?_) fun _ _ x => x
  obtain ⟨here, rfl, hh⟩ : ∃ here : Int, d = .int here ∧ (0 ≤ here ∧ here < p) := by
    simp only [List.mem_cons, List.not_mem_nil, or_false] at hd
    rcases hd with hd | hd
    · exact ⟨0, hd, by omega, by omega⟩
    · exact ⟨h, hd, a, b⟩
  walk_at "STN"
  refine (w_cast (by omega) (by omega)).imp (fun d ⟨there, e, a2, b2⟩ => ?_) fun _ _ x => x
  subst e
  walk_at "STN"
  refine ⟨_, _, rfl, fun _ => ?_, fun z => absurd rfl z⟩
  walk_at "STN"
  refine (w_cast (by decide) (by decide)).imp (fun d ⟨way, e, _, _⟩ => ?_) fun _ _ x => x
  subst e
  walk_at "STN"
  refine (w_subset t1 t3).imp (fun some hs => ?_) fun _ _ x => x
  walk_at "STN"
  refine ⟨_, _, rfl, fun _ => ?_, fun z => absurd rfl z⟩
  walk_at "STN"
  refine ⟨fun _ => ?_, fun _ => ?_⟩
  · walk_at "STN"
    refine (w_pickL (by simp) (by simp)).imp (fun kind hk => ?_) fun _ _ x => x
    have hk : kind = .str "call" ∨ kind = .str "post" := by
      simp only [List.mem_cons, List.not_mem_nil, or_false] at hk
      rcases hk with h | h | h
      · exact .inl h
      · exact .inr h
      · exact .inr h
    walk_at "STN"
    refine (w_pickL (by omega) (by omega)).imp (fun name hm => ?_) fun _ _ x => x
    walk_at "STN"
    exact drawn_cp t3 (by omega) hk hh ⟨a2, b2⟩ (hn name hm) hs
  · walk_at "STN"
    refine ⟨fun _ => ?_, fun _ => ?_⟩
    · walk_at "STN"
      exact drawn_lv t3 (by omega) hh hs
    · walk_at "STN"
      refine ⟨by simp, ⟨fun _ => ?_, fun z => absurd rfl z⟩⟩
      walk_at "STN"
      refine (w_cast (by decide) (by decide)).imp (fun d ⟨r, e, r0, r3⟩ => ?_) fun _ _ x => x
      subst e
      walk_at "STN"
      obtain ⟨k, hk, k1, k3⟩ : ∃ k : Nat, 1 + r = (k : Int) ∧ 1 ≤ k ∧ k ≤ 3 := ⟨(1 + r).toNat, by omega, by omega, by omega⟩
      rw [hk]
      refine wg_rngN (by omega) ?_
      refine ws_forL (J := fun ds ρ => ∃ (ks : List (List Int)) (s5 : Sl), ρ = [.val (.mut n), .val (.int t), .val (.int p), .val (.lst nl), .own (tupsI ks), s5, .val (.int here), .val (.int there), .val (.int way), .val some] ∧ ks.length + ds.length = k ∧ ∀ q ∈ ks, ∃ i j : Int, q = [i, j] ∧ 0 ≤ i ∧ i < t ∧ 0 ≤ j ∧ j < t) ?_ ?_ _ _ ⟨[], _, rfl, by rw [rngD_len]; simp, fun _ h => nomatch h⟩
      · rintro x ds ρ ⟨ks, s5, rfl, hl, hq⟩
        refine ⟨_, rfl, ?_⟩
        refine ws_app (xs := tupsI ks) (by rfl) (by unfold tupsI; rw [List.length_map]; omega) ?_
        walk_at "STN"
        refine (w_cast (by omega) (by omega)).imp (fun d ⟨i, e, i0, i1⟩ => ?_) fun _ _ x => x
        subst e
        walk_at "STN"
        refine (w_cast (by omega) (by omega)).imp (fun d ⟨j, e, j0, j1⟩ => ?_) fun _ _ x => x
        subst e
        walk_at "STN"
        refine ⟨ks ++ [[i, j]], .val x, ?_, by rw [List.length_append]; simp only [List.length_cons, List.length_nil] at *; omega, fun q hq2 => ?_⟩
        · unfold tupsI
          rw [List.map_append]
          rfl
        · rcases List.mem_append.mp hq2 with h | h
          · exact hq q h
          · rw [List.mem_singleton.mp h]; exact ⟨i, j, rfl, i0, i1, j0, j1⟩
      · rintro ρ ⟨ks, s5, rfl, hl, hq⟩
        have hl : ks.length = k := hl
        have ev : evenK ks = true := by
          cases ks with
          | nil => rfl
          | cons a r =>
            unfold evenK
            rw [Bool.and_eq_true, decide_eq_true_eq, List.all_eq_true]
            obtain ⟨i, j, e, _⟩ := hq a List.mem_cons_self
            refine ⟨by rw [e]; show 1 ≤ 2; decide, fun z hz => decide_eq_true ?_⟩
            obtain ⟨i2, j2, e2, _⟩ := hq z (List.mem_cons_of_mem _ hz)
            rw [e, e2]; rfl
        walk_at "STN"
        refine wg_sortBL (keysD_tups ks) ⟨by omega, ev⟩ ?_
        walk_at "STN"
        exact drawn_go t3 (by omega) hh ⟨a2, b2⟩ (by omega) (by omega) hq
def BandOk (d : D) : Prop := ∃ (name : D) (p : Nat) (ms : List D), d = .lst [name, .int p, .tup ms] ∧ name ∈ nameL ∧ 1 ≤ p ∧ p ≤ 3 ∧ 2 ≤ ms.length ∧ ms.length ≤ 5 ∧ ∀ m ∈ ms, DrawnM p m
theorem pick4 {d : D} (h : d ∈ [D.int 2, .int 3, .int 1, .int 2]) : ∃ t : Nat, d = .int t ∧ 1 ≤ t ∧ t ≤ 3 := by
  simp only [List.mem_cons, List.not_mem_nil, or_false] at h
  rcases h with h | h | h | h
  · exact ⟨2, h, by decide, by decide⟩
  · exact ⟨3, h, by decide, by decide⟩
  · exact ⟨1, h, by decide, by decide⟩
  · exact ⟨2, h, by decide, by decide⟩
theorem pick4' {d : D} (h : d ∈ [D.int 2, .int 1, .int 3, .int 2]) : ∃ t : Nat, d = .int t ∧ 1 ≤ t ∧ t ≤ 3 := pick4 (by
  simp only [List.mem_cons, List.not_mem_nil, or_false] at *
  rcases h with h | h | h | h
  · exact .inl h
  · exact .inr (.inr (.inl h))
  · exact .inr (.inl h)
  · exact .inl h)
theorem w_any_plain : Wp (IsDiP n) (F_law_any_plain [.mut n]) (fun r => ∃ t0 s0 b0 bands, r = .lst [t0, s0, b0, .lst bands] ∧ 1 ≤ bands.length ∧ bands.length ≤ 3 ∧ ∀ b ∈ bands, BandOk b) X := by
  refine w_def rfl ?_
  unfold b_law_any_plain
  walk_at "STN"
  refine (w_pickL (by simp) (by simp)).imp (fun d hd => ?_) fun _ _ x => x
  obtain ⟨t, rfl, t1, t3⟩ := pick4 hd
  walk_at "STN"
  refine ⟨by simp, ⟨fun _ => ?_, fun z => absurd rfl z⟩⟩
  walk_at "STN"
  refine (w_shuffle (names := nameL) (by rfl) (by show 3 ≤ 100; decide)).imp (fun d ⟨ys, e, yl, ym⟩ => ?_) fun _ _ x => x
  subst e
  have yl : ys.length = 3 := yl
  walk_at "STN"
  refine (w_pickL (by simp) (by simp)).imp (fun d hd => ?_) fun _ _ x => x
  obtain ⟨c, rfl, c1, c3⟩ := pick4 hd
  walk_at "STN"
  rw [cutD_take ys rfl]
  obtain ⟨nl, enl⟩ : ∃ nl, nl = ys.take c := ⟨_, rfl⟩
  rw [← enl]
  have nlen : nl.length = c := by rw [enl, List.length_take]; omega
  have hn : ∀ x ∈ nl, x ∈ nameL := fun x hx => ym x (List.mem_of_mem_take (enl ▸ hx))
  refine ws_forL (J := fun ds ρ => ∃ (bands : List D) (s2 s6 s7 s8 : Sl), ρ = [.val (.mut n), .val (.lst nl), s2, .un, .val (.int t), .own bands, s6, s7, s8] ∧ bands.length + ds.length = nl.length ∧ (∀ b ∈ bands, BandOk b) ∧ ∀ d ∈ ds, d ∈ nl) ?_ ?_ _ _ ⟨[], _, _, _, _, rfl, by simp, fun _ h => (nomatch h), fun _ h => h⟩
  · rintro x ds ρ ⟨bands, s2, s6, s7, s8, rfl, hl, hb, hd⟩
    have hx := hn x (hd x List.mem_cons_self)
    refine ⟨_, rfl, ?_⟩
    walk_at "STN"
    refine (w_pickL (by simp) (by simp)).imp (fun d hdp => ?_) fun _ _ x => x
    obtain ⟨p, rfl, p1, p3⟩ := pick4' hdp
    walk_at "STN"
    refine ⟨by simp, ⟨fun _ => ?_, fun z => absurd rfl z⟩⟩
    walk_at "STN"
    refine (w_cast (by decide) (by decide)).imp (fun d ⟨r, e, r0, r3⟩ => ?_) fun _ _ x => x
    subst e
    walk_at "STN"
    obtain ⟨k, hk, k1, k3⟩ : ∃ k : Nat, 2 + r = (k : Int) ∧ 2 ≤ k ∧ k ≤ 5 := ⟨(2 + r).toNat, by omega, by omega, by omega⟩
    rw [hk]
    refine wg_rngN (by omega) ?_
    refine ws_forL (J := fun ds ρ => ∃ (ms : List D) (s6 : Sl), ρ = [.val (.mut n), .val (.lst nl), .val x, .un, .val (.int t), .own bands, s6, .val (.int p), .own ms] ∧ ms.length + ds.length = k ∧ ∀ m ∈ ms, DrawnM p m) ?_ ?_ _ _ ⟨[], _, rfl, by rw [rngD_len]; simp, fun _ h => nomatch h⟩
    · rintro y es ρ ⟨ms, s6, rfl, hl, hm⟩
      refine ⟨_, rfl, ?_⟩
      refine ws_app (xs := ms) (by rfl) (by omega) ?_
      walk_at "STN"
      refine (w_a_move t1 t3 p1 p3 (by omega) (by omega) hn).imp (fun m hdm => ?_) fun _ _ x => x
      refine ⟨ms ++ [m], _, rfl, by rw [List.length_append]; simp only [List.length_cons, List.length_nil] at *; omega, fun q hq2 => ?_⟩
      rcases List.mem_append.mp hq2 with h | h
      · exact hm q h
      · rw [List.mem_singleton.mp h]; exact hdm
    · rintro ρ ⟨ms, s6, rfl, hml, hm⟩
      have hml : ms.length = k := hml
      refine ⟨fun _ => ?_, fun z => absurd rfl z⟩
      refine ws_frz (ws_app (xs := bands) (by rfl) (by simp only [List.length_cons] at hl; omega) ?_)
      walk_at "STN"
      refine ⟨bands ++ [.lst [x, .int p, .tup ms]], _, _, _, _, rfl, by rw [List.length_append]; simp only [List.length_cons, List.length_nil] at *; omega, fun q hq2 => ?_, fun d h => hd d (List.mem_cons_of_mem _ h)⟩
      rcases List.mem_append.mp hq2 with h | h
      · exact hb q h
      · rw [List.mem_singleton.mp h]; exact ⟨x, p, ms, rfl, hx, p1, p3, by omega, by omega, hm⟩
  · rintro ρ ⟨bands, s2, s6, s7, s8, rfl, hl, hb, _⟩
    have hl : bands.length = nl.length := hl
    refine ⟨fun _ => ?_, fun z => absurd rfl z⟩
    walk_at "STN"
    refine w_comp (fun d o => ∃ y, o = some y ∧ True) ?_
    walk_at "STN"
    refine ⟨by omega, fun d hd => ⟨_, rfl, w_yes ⟨fun _ => ?_, fun z => (nomatch z)⟩⟩, fun bs hbs => ?_⟩
    · walk_at "STN"
      exact (w_pickL (by simp) (by simp)).imp (fun d _ => ⟨d, rfl, trivial⟩) fun _ _ x => x
    · have lb := (Got_.all hbs).1
      walk_at "STN"
      refine (w_subset t1 t3).imp (fun some hs => ?_) fun _ _ x => x
      walk_at "STN"
      exact ⟨_, _, _, bands, rfl, by omega, by omega, hb⟩
end
end K10
/-! K10y: == answers; repr of drawn data; what a procedure tells. -/
namespace K10
open PySem PySem.Spec PyProof.Rows L2 DN KB
local macro_rules | `(tactic| walk_at "STN") => `(tactic| (repeat (first | with_reducible refine ws_seq ?_ | with_reducible refine ws_asg ?_ | with_reducible refine ws_ret ?_ | with_reducible refine ws_if ?_ | with_reducible refine ws_next ?_ | with_reducible refine ws_retN ?_ | with_reducible refine ws_brk ?_ | with_reducible refine ws_cont ?_ | with_reducible refine ws_drop ?_ | with_reducible refine ws_setI ?_ | with_reducible refine ws_for ?_ | with_reducible refine ws_par ?_ | with_reducible refine ws_frz ?_ | with_reducible refine ws_parO ?_ | with_reducible refine ws_setOwn ?_ | with_reducible refine ⟨fun _ => ?_, fun z => absurd rfl z⟩ | refine And.intro rt_nx fun _ => ?_ | refine And.intro bk_nx fun _ => ?_ | refine And.intro ct_nx fun _ => ?_ | with_reducible refine w_c2 ?_ | with_reducible refine w_c1 ?_ | with_reducible refine w_cA ?_ | with_reducible refine w_cons ?_ | with_reducible refine w_nil ?_ | with_reducible refine w_c ?_ | with_reducible refine w_call ?_ | with_reducible refine w_it ?_ | with_reducible refine w_rng1 ?_ | with_reducible refine w_rng2 ?_ | with_reducible refine w_m0 ?_ | with_reducible refine w_m1 ?_ | with_reducible refine w_sl ?_ | with_reducible refine w_part ?_ | with_reducible refine w_noP ?_ | with_reducible refine w_b ?_ | with_reducible refine w_notB ?_ | with_reducible refine w_if ?_ | with_reducible refine w_chain ?_ | with_reducible refine w_zip ?_ | with_reducible refine w_enum ?_ | with_reducible refine wg_add ?_ | with_reducible refine wg_sub ?_ | with_reducible refine wg_neg ?_ | with_reducible refine wg_lt ?_ | with_reducible refine wg_le ?_ | with_reducible refine wg_gt ?_ | with_reducible refine wg_ge ?_ | with_reducible refine wg_not ?_ | with_reducible refine wg_lenL ?_ | with_reducible refine wg_lenT ?_ | with_reducible refine wg_lenC ?_ | with_reducible refine wg_int ?_ | with_reducible refine wg_intB ?_ | with_reducible refine wg_abs ?_ | with_reducible refine wg_max2 ?_ | with_reducible refine wg_min2 ?_ | with_reducible refine wg_reprB ?_ | with_reducible refine wg_itL ?_ | with_reducible refine wg_itT ?_ | with_reducible refine wg_itC ?_ | with_reducible refine wg_itS ?_ | with_reducible refine wg_slL ?_ | with_reducible refine wg_slT ?_ | with_reducible refine wg_tupleL ?_ | with_reducible refine wg_tupleT ?_ | with_reducible refine wg_listL ?_ | with_reducible refine wg_listT ?_ | with_reducible refine wg_revL ?_ | with_reducible refine wg_revT ?_ | with_reducible refine wg_zipT ?_ | with_reducible refine wg_allM ?_ | with_reducible refine wg_anyM ?_ | with_reducible refine w_var (by with_unfolding_all rfl) ?_ | with_reducible refine wg_mul (Or.inr (by decide)) ?_ | with_reducible refine wg_mul (Or.inl (by decide)) ?_ | with_reducible refine wg_mod (by decide +kernel) ?_ | with_reducible refine wg_fdiv (by decide) ?_ | with_reducible refine wg_pow (by decide +kernel) ?_ | with_reducible refine wg_tup (by simp; done) ?_ | with_reducible refine wg_lst (by simp; done) ?_ | with_reducible refine w_dieSet (by decide) ?_ | with_reducible refine w_dieAt (by decide) (fun _ => ?_) | refine ⟨_, rfl, ?_⟩ | refine ⟨rfl, ?_⟩ | with_reducible refine wg_ltI ?_ | with_reducible refine wg_mulAI (Or.inr (by decide)) ?_ | with_reducible refine wg_mulAI (Or.inl (by decide)) ?_ | with_reducible refine w_dieSetP (by decide) ?_ | with_reducible refine w_cF rfl ?_ | with_reducible refine wg_neEI ?_ | with_reducible refine wg_neEB ?_ | with_reducible refine wg_neL ?_ | with_reducible refine wg_neT ?_ | with_reducible refine wg_lenIT ?_ | with_reducible refine wg_lenIL ?_ | with_reducible refine wg_lenIC ?_ | with_reducible refine ws_match ?_ | with_reducible refine ws_parV ?_ | with_reducible refine w_dieAtP (by decide) (fun _ => ?_))))
theorem allN_fin {n : Nat} (ih : ∀ {d e : D}, finD n d = true → finD n e = true → ∃ b, ∀ k, n < k → eqN k d e = some b) : ∀ {xs ys : List D}, (∀ x ∈ xs, finD n x = true) → (∀ y ∈ ys, finD n y = true) → ∃ b, ∀ k, n < k → allN (eqN k) xs ys = some b
  | [], _, _, _ => ⟨true, fun _ _ => rfl⟩
  | _ :: _, [], _, _ => ⟨true, fun _ _ => rfl⟩
  | x :: xs, y :: ys, hx, hy => by
    obtain ⟨b1, h1⟩ := ih (hx x List.mem_cons_self) (hy y List.mem_cons_self)
    obtain ⟨b2, h2⟩ := allN_fin ih (xs := xs) (ys := ys) (fun z hz => hx z (List.mem_cons_of_mem _ hz)) fun z hz => hy z (List.mem_cons_of_mem _ hz)
    refine ⟨b1 && b2, fun k hk => ?_⟩
    show (match eqN k x y, allN (eqN k) xs ys with | some a, some b => some (a && b) | _, _ => none) = _
    rw [h1 k hk, h2 k hk]
theorem eqN_unf {j i i' : Nat} {d e : D} (hd : kn d = some i) (he : kn e = some i') : eqN (j + 1) d e = if i = i' then (match (generalizing := false) d, e with
      | .lst xs, .lst ys => if true = true then (if xs.length = ys.length then allN (eqN j) xs ys else some false) else none
      | .tup xs, .tup ys => if true = true then (allN (eqN j) xs ys).map fun b => b && decide (xs.length = ys.length) else none
      | .dct _, .dct _ => if true = true then some true else none
      | x, y => some (eqS x y)) else some false := by
  show eqB (eqN j) true d e = _
  unfold eqB
  rw [hd, he] <;> rfl
theorem eqN_fin : ∀ (n : Nat) {d e : D}, finD n d = true → finD n e = true → ∃ b, ∀ k, n < k → eqN k d e = some b := by
  intro n
  induction n with
  | zero =>
    intro d e hd he
    obtain ⟨i, ki⟩ := (fin_kn hd).2
    obtain ⟨i', ki'⟩ := (fin_kn he).2
    by_cases h : i = i'
    · cases d with
      | tup _ => cases hd
      | lst _ => cases hd
      | dct _ =>
        cases e with
        | dct _ =>
          refine ⟨true, fun k hk => ?_⟩
          obtain ⟨j, rfl⟩ : ∃ j, k = j + 1 := ⟨k - 1, by omega⟩
          rw [eqN_unf ki ki', if_pos h]; rfl
        | _ =>
          refine ⟨false, fun k hk => ?_⟩
          obtain ⟨j, rfl⟩ : ∃ j, k = j + 1 := ⟨k - 1, by omega⟩
          rw [eqN_unf ki ki', if_pos h]; rfl
      | non =>
        refine ⟨eqS .non e, fun k hk => ?_⟩
        obtain ⟨j, rfl⟩ : ∃ j, k = j + 1 := ⟨k - 1, by omega⟩
        rw [eqN_unf ki ki', if_pos h]
      | bl b =>
        refine ⟨eqS (.bl b) e, fun k hk => ?_⟩
        obtain ⟨j, rfl⟩ : ∃ j, k = j + 1 := ⟨k - 1, by omega⟩
        rw [eqN_unf ki ki', if_pos h]
      | int b =>
        refine ⟨eqS (.int b) e, fun k hk => ?_⟩
        obtain ⟨j, rfl⟩ : ∃ j, k = j + 1 := ⟨k - 1, by omega⟩
        rw [eqN_unf ki ki', if_pos h]
      | str b =>
        refine ⟨eqS (.str b) e, fun k hk => ?_⟩
        obtain ⟨j, rfl⟩ : ∃ j, k = j + 1 := ⟨k - 1, by omega⟩
        rw [eqN_unf ki ki', if_pos h]
      | _ => cases hd
    · refine ⟨false, fun k hk => ?_⟩
      obtain ⟨j, rfl⟩ : ∃ j, k = j + 1 := ⟨k - 1, by omega⟩
      rw [eqN_unf ki ki', if_neg h]
  | succ n ih =>
    intro d e hd he
    obtain ⟨i, ki⟩ := (fin_kn hd).2
    obtain ⟨i', ki'⟩ := (fin_kn he).2
    by_cases h : i = i'
    · cases d with
      | tup xs =>
        cases e with
        | tup ys =>
          obtain ⟨b, hb⟩ := allN_fin ih (fin_tup.mp hd).2 (fin_tup.mp he).2
          refine ⟨b && decide (xs.length = ys.length), fun k hk => ?_⟩
          obtain ⟨j, rfl⟩ : ∃ j, k = j + 1 := ⟨k - 1, by omega⟩
          rw [eqN_unf ki ki', if_pos h]
          show (allN (eqN j) xs ys).map _ = _
          rw [hb j (by omega)]; rfl
        | _ =>
          refine ⟨false, fun k hk => ?_⟩
          obtain ⟨j, rfl⟩ : ∃ j, k = j + 1 := ⟨k - 1, by omega⟩
          rw [eqN_unf ki ki', if_pos h]; rfl
      | lst xs =>
        cases e with
        | lst ys =>
          obtain ⟨b, hb⟩ := allN_fin ih (fin_lst.mp hd).2 (fin_lst.mp he).2
          by_cases hl : xs.length = ys.length
          · refine ⟨b, fun k hk => ?_⟩
            obtain ⟨j, rfl⟩ : ∃ j, k = j + 1 := ⟨k - 1, by omega⟩
            rw [eqN_unf ki ki', if_pos h]
            show (if xs.length = ys.length then allN (eqN j) xs ys else some false) = _
            rw [if_pos hl, hb j (by omega)]
          · refine ⟨false, fun k hk => ?_⟩
            obtain ⟨j, rfl⟩ : ∃ j, k = j + 1 := ⟨k - 1, by omega⟩
            rw [eqN_unf ki ki', if_pos h]
            show (if xs.length = ys.length then allN (eqN j) xs ys else some false) = _
            rw [if_neg hl]
        | _ =>
          refine ⟨false, fun k hk => ?_⟩
          obtain ⟨j, rfl⟩ : ∃ j, k = j + 1 := ⟨k - 1, by omega⟩
          rw [eqN_unf ki ki', if_pos h]; rfl
      | dct _ =>
        cases e with
        | dct _ =>
          refine ⟨true, fun k hk => ?_⟩
          obtain ⟨j, rfl⟩ : ∃ j, k = j + 1 := ⟨k - 1, by omega⟩
          rw [eqN_unf ki ki', if_pos h]; rfl
        | _ =>
          refine ⟨false, fun k hk => ?_⟩
          obtain ⟨j, rfl⟩ : ∃ j, k = j + 1 := ⟨k - 1, by omega⟩
          rw [eqN_unf ki ki', if_pos h]; rfl
      | non =>
        refine ⟨eqS .non e, fun k hk => ?_⟩
        obtain ⟨j, rfl⟩ : ∃ j, k = j + 1 := ⟨k - 1, by omega⟩
        rw [eqN_unf ki ki', if_pos h]
      | bl b =>
        refine ⟨eqS (.bl b) e, fun k hk => ?_⟩
        obtain ⟨j, rfl⟩ : ∃ j, k = j + 1 := ⟨k - 1, by omega⟩
        rw [eqN_unf ki ki', if_pos h]
      | int b =>
        refine ⟨eqS (.int b) e, fun k hk => ?_⟩
        obtain ⟨j, rfl⟩ : ∃ j, k = j + 1 := ⟨k - 1, by omega⟩
        rw [eqN_unf ki ki', if_pos h]
      | str b =>
        refine ⟨eqS (.str b) e, fun k hk => ?_⟩
        obtain ⟨j, rfl⟩ : ∃ j, k = j + 1 := ⟨k - 1, by omega⟩
        rw [eqN_unf ki ki', if_pos h]
      | _ => cases hd
    · refine ⟨false, fun k hk => ?_⟩
      obtain ⟨j, rfl⟩ : ∃ j, k = j + 1 := ⟨k - 1, by omega⟩
      rw [eqN_unf ki ki', if_neg h]
/-- the three parts, at once and one by one -/
theorem eq_three {c q m c' q' m' : D} (h1 : finD 5 c = true) (h2 : finD 5 q = true) (h3 : finD 5 m = true) (g1 : finD 5 c' = true) (g2 : finD 5 q' = true) (g3 : finD 5 m' = true) :
    ∃ b1 b2 b3, eqN 50 c c' = some b1 ∧ eqN 50 q q' = some b2 ∧ eqN 50 m m' = some b3 ∧ eqN 50 (.lst [c, q, m]) (.lst [c', q', m']) = some (b1 && (b2 && b3)) := by
  obtain ⟨b1, e1⟩ := eqN_fin 5 h1 g1
  obtain ⟨b2, e2⟩ := eqN_fin 5 h2 g2
  obtain ⟨b3, e3⟩ := eqN_fin 5 h3 g3
  refine ⟨b1, b2, b3, e1 50 (by decide), e2 50 (by decide), e3 50 (by decide), ?_⟩
  rw [eqN_unf (i := 3) (i' := 3) rfl rfl, if_pos rfl]
  show allN (eqN 49) [c, q, m] [c', q', m'] = _
  show (match eqN 49 c c', (match eqN 49 q q', (match eqN 49 m m', some true with | some a, some b => some (a && b) | _, _ => none) with | some a, some b => some (a && b) | _, _ => none) with | some a, some b => some (a && b) | _, _ => none) = _
  rw [e1 49 (by decide), e2 49 (by decide), e3 49 (by decide)]
  show some (b1 && (b2 && (b3 && true))) = _
  rw [Bool.and_true]
/-! repr -/
structure Sh (d : D) (b k : Nat) : Prop where
  ex : ∃ p, toR d = some p ∧ p.showable = true ∧ p.leavesShort 45 = true ∧ p.bulk ≤ b ∧ p.depth ≤ k
structure Shs (ds : List D) (b k : Nat) : Prop where
  ex : ∃ ps, toRs ds = some ps ∧ PyData.showableAll ps = true ∧ PyData.leavesShortAll 45 ps = true ∧ PyData.bulkAll ps ≤ b ∧ PyData.depthAll ps ≤ k
theorem Shs.nil {k : Nat} : Shs [] 0 k := ⟨[], by unfold toRs; rfl, rfl, rfl, Nat.le_refl 0, Nat.zero_le _⟩
theorem Shs.cons {d : D} {ds : List D} {b b' k : Nat} (h : Sh d b k) (hs : Shs ds b' k) : Shs (d :: ds) (b + 1 + b') k := by
  obtain ⟨p, e, s, l, hb, hk⟩ := h.ex
  obtain ⟨ps, e', s', l', hb', hk'⟩ := hs.ex
  refine ⟨p :: ps, ?_, ?_, ?_, ?_, ?_⟩
  · unfold toRs; rw [e, e']
  · show (p.showable && PyData.showableAll ps) = true
    rw [s, s']; rfl
  · show (p.leavesShort 45 && PyData.leavesShortAll 45 ps) = true
    rw [l, l']; rfl
  · show p.bulk + 1 + PyData.bulkAll ps ≤ _
    omega
  · show max p.depth (PyData.depthAll ps) ≤ _
    omega
theorem Shs.all {k b : Nat} : ∀ {ds : List D}, (∀ d ∈ ds, Sh d b k) → Shs ds (ds.length * (b + 1)) k
  | [], _ => by rw [List.length_nil, Nat.zero_mul]; exact Shs.nil
  | d :: ds, h => by
    have h1 := Shs.cons (h d List.mem_cons_self) (Shs.all fun x hx => h x (List.mem_cons_of_mem _ hx))
    have e : (d :: ds).length * (b + 1) = b + 1 + ds.length * (b + 1) := by rw [List.length_cons, Nat.add_mul, Nat.one_mul, Nat.add_comm]
    rw [e]; exact h1
theorem Sh.tup {ds : List D} {b k : Nat} (h : Shs ds b k) : Sh (.tup ds) b (k + 1) := by
  obtain ⟨ps, e, s, l, hb, hk⟩ := h.ex
  exact ⟨.tuple ps, by unfold toR; rw [e]; rfl, s, l, hb, Nat.succ_le_succ hk⟩
theorem Sh.lst {ds : List D} {b k : Nat} (h : Shs ds b k) : Sh (.lst ds) b (k + 1) := by
  obtain ⟨ps, e, s, l, hb, hk⟩ := h.ex
  exact ⟨.list ps, by unfold toR; rw [e]; rfl, s, l, hb, Nat.succ_le_succ hk⟩
theorem Sh.up {d : D} {b b' k k' : Nat} (h : Sh d b k) (hb : b ≤ b') (hk : k ≤ k') : Sh d b' k' := by
  obtain ⟨p, e, s, l, h1, h2⟩ := h.ex
  exact ⟨p, e, s, l, Nat.le_trans h1 hb, Nat.le_trans h2 hk⟩
theorem Shs.up {d : List D} {b b' k k' : Nat} (h : Shs d b k) (hb : b ≤ b') (hk : k ≤ k') : Shs d b' k' := by
  obtain ⟨p, e, s, l, h1, h2⟩ := h.ex
  exact ⟨p, e, s, l, Nat.le_trans h1 hb, Nat.le_trans h2 hk⟩
theorem ofStr_len (s : String) : (Str.ofString s).length = s.length := PySem.ofString_length s
theorem sh_int {i : Int} (h : (-1 ≤ i ∧ i ≤ 99) ∨ i = 10 ^ 39) : Sh (.int i) 9 1 := by
  refine ⟨.int i, rfl, ?_, ?_, Nat.zero_le _, Nat.zero_le _⟩
  · refine decide_eq_true (?_ : i.natAbs.log2 < 1920)
    rcases h with h | h
    · by_cases z : i.natAbs = 0
      · rw [z]; decide
      · have : i.natAbs.log2 < 7 := (Nat.log2_lt z).mpr (by omega)
        omega
    · subst h; decide +kernel
  · refine decide_eq_true (?_ : (Str.ofString (toString i)).length ≤ 45)
    rw [ofStr_len]
    have : i.natAbs < 10 ^ 40 := by
      rcases h with h | h
      · omega
      · subst h; decide +kernel
    have := PySem.int_text_length_le10 (k := 40) (by decide) this
    omega
theorem sh_wl : ∀ z ∈ WL, Sh (.str z) 9 1 := fun z hz => by
  have h : (WL.all fun z => (PyData.str z).leavesShort 45 && decide (z.cps.size ≤ 9)) = true := by decide +kernel
  have h := List.all_eq_true.mp h z hz
  rw [Bool.and_eq_true, decide_eq_true_eq] at h
  exact ⟨.str z, rfl, rfl, h.1, h.2, Nat.zero_le _⟩
theorem sh0 {d : D} (h : fin0 d = true) : Sh d 9 1 := by
  cases d with
  | non => exact ⟨.none, rfl, rfl, rfl, Nat.zero_le _, Nat.zero_le _⟩
  | bl b => exact ⟨.bool b, rfl, rfl, rfl, Nat.zero_le _, Nat.zero_le _⟩
  | int i =>
    refine sh_int ?_
    have h : ((decide (-1 ≤ i) && decide (i ≤ 99)) || decide (i = 10 ^ 39)) = true := h
    rw [Bool.or_eq_true, Bool.and_eq_true, decide_eq_true_eq, decide_eq_true_eq, decide_eq_true_eq] at h
    exact h
  | str z => exact sh_wl z (List.contains_iff_mem.mp h)
  | dct kvs =>
    have h : kvs.isEmpty = true := h
    cases List.isEmpty_iff.mp h
    exact ⟨.dict [], rfl, rfl, rfl, Nat.zero_le _, Nat.le_refl 1⟩
  | _ => cases h
def wN : Nat → Nat
  | 0 => 9
  | n + 1 => bnd n * (wN n + 1)
theorem bnd4 : ∀ n, 4 ≤ bnd n
  | 0 => by decide | 1 => by decide | 2 => by decide | 3 => by decide | _ + 4 => by show 4 ≤ 40; decide
theorem wN9 : ∀ n, 9 ≤ wN n
  | 0 => Nat.le_refl 9
  | n + 1 => by
    have h1 := Nat.mul_le_mul_right (wN n + 1) (bnd4 n)
    have := wN9 n
    show 9 ≤ bnd n * (wN n + 1)
    omega
theorem shN : ∀ (n : Nat) {d : D}, finD n d = true → Sh d (wN n) (n + 1)
  | 0, d, h => sh0 h
  | n + 1, d, h => by
    have up : ∀ {d : D}, fin0 d = true → Sh d (wN (n + 1)) (n + 1 + 1) := fun h => (sh0 h).up (wN9 _) (by omega)
    have all : ∀ {xs : List D}, xs.length ≤ bnd n → (∀ x ∈ xs, finD n x = true) → Shs xs (wN (n + 1)) (n + 1) := fun hl hx => (Shs.all fun x h => shN n (hx x h)).up (Nat.mul_le_mul_right _ hl) (Nat.le_refl _)
    cases d with
    | tup xs => exact Sh.tup (all (fin_tup.mp h).1 (fin_tup.mp h).2)
    | lst xs => exact Sh.lst (all (fin_lst.mp h).1 (fin_lst.mp h).2)
    | _ => exact up h
theorem repr_ok {ds : List D} {b k : Nat} (h : Shs ds b k) (hb : 47 * b + 45 ≤ 16777216) (hk : k ≤ 59) : ∃ p, toR (.lst ds) = some p ∧ reprOk p = true := by
  obtain ⟨p, e, s, l, h1, h2⟩ := (Sh.lst h).ex
  refine ⟨p, e, ?_⟩
  unfold reprOk
  have h3 := PyData.shown_le_bulk 45 (by decide) p l
  have h4 : (45 + 2) * p.bulk ≤ 47 * b := Nat.mul_le_mul_left _ h1
  rw [s, decide_eq_true (show p.shown.length ≤ 16777216 by omega), decide_eq_true (show p.depth ≤ 60 by omega)]
  rfl
theorem fin_word {n : Nat} {c : D} (h : finD n c = true) (w : wordB c = true) : fin0 c = true := by
  cases c with
  | str z => cases n <;> exact h
  | _ => cases w
theorem okP_fin {q : D} (h : okP q = true) : fin0 q = true := by
  cases q with
  | int i =>
    have h : (decide (0 < i) && decide (i ≤ 6)) = true := h
    rw [Bool.and_eq_true, decide_eq_true_eq, decide_eq_true_eq] at h
    exact fin_i (m := 0) (by omega) (by omega)
  | _ => cases h
theorem row_shs {c q : D} {ms r : List D} (hc : fin0 c = true) (hq : fin0 q = true) (hm : ∀ x ∈ ms, finD 4 x = true) (hl : ms.length ≤ 12) (hr : ∀ x ∈ r, fin0 x = true) (rl : r.length ≤ 4) : Shs (c :: q :: .tup ms :: r) 50000 6 := by
  have w4 : wN 4 = 3966 := by decide
  have h1 : Sh (.tup ms) 47604 6 := (Sh.tup (Shs.all fun x h => shN 4 (hm x h))).up (by rw [w4]; omega) (by omega)
  have h2 : Shs r 40 6 := (Shs.all fun x h => sh0 (hr x h)).up (by omega) (by omega)
  exact (Shs.cons ((sh0 hc).up (Nat.le_refl _) (by omega)) (Shs.cons ((sh0 hq).up (Nat.le_refl _) (by omega)) (Shs.cons h1 h2))).up (by omega) (Nat.le_refl _)
theorem wg_reprS {I : Store → Prop} {P : D → Prop} {X : XP} {ds : List D} {p : PyData} (e : toR (.lst ds) = some p) (ok : reprOk p = true) (h : P (.str p.shown)) : Wp I (gReprS [.lst ds]) P X := wg_eqm (by unfold gReprS; dsimp only; rw [e]; dsimp only; rw [if_pos ok]) h
section
variable {I : Store → Prop} {X : XP}
theorem w_is_as {c q : D} {ms : List D} (hc : fin0 c = true) (hq : fin0 q = true) (hm : ∀ x ∈ ms, finD 4 x = true) (hl : ms.length ≤ 12) : Wp I (F_law_is_as [procD c q ms, .lst [c, q, .tup ms]]) (fun r => r = .bl true) X := by
  obtain ⟨p, e, ok⟩ := repr_ok (row_shs (r := []) hc hq hm hl (fun _ h => nomatch h) (Nat.zero_le _)) (by decide) (by decide)
  refine w_def rfl ?_
  unfold b_law_is_as
  walk_at "STN"
  refine wg_prop (w_called.imp (fun r hr => ?_) fun _ _ x => x)
  subst hr
  walk_at "STN"
  refine wg_prop (w_points.imp (fun r hr => ?_) fun _ _ x => x)
  subst hr
  walk_at "STN"
  refine wg_prop (w_moves.imp (fun r hr => ?_) fun _ _ x => x)
  subst hr
  walk_at "STN"
  refine wg_reprS e ok ?_
  walk_at "STN"
  refine wg_reprS e ok ?_
  refine wg_eqIN rfl (eqN_s _ _) ?_
  walk_at "STN"
  rw [beq_self_eq_true]
theorem w_str {c : Str} {q : Int} {ms : List D} (hc : c ∈ WL) (h0 : 0 ≤ q) (h1 : q ≤ 99) (hl : ms.length ≤ 99) : Wp I (cF 1 F_Procedure___str__ [procD (.str c) (.int q) ms]) (fun r => r = .str ("procedure " ++ c ++ ", " ++ toString q ++ " points, " ++ toString (ms.length : Int) ++ " moves")) X := by
  have lc : c.length ≤ 9 := by
    have h : (WL.all fun z => decide (z.length ≤ 9)) = true := by decide +kernel
    exact of_decide_eq_true (List.all_eq_true.mp h c hc)
  have li : ∀ i : Int, 0 ≤ i → i ≤ 99 → (Str.ofString (toString i)).length ≤ 3 ∧ i.natAbs.log2 < 1920 := fun i a b => by
    refine ⟨?_, ?_⟩
    · rw [ofStr_len]
      have := PySem.int_text_length_le10 (a := i) (k := 2) (by decide) (by omega)
      omega
    · by_cases z : i.natAbs = 0
      · rw [z]; decide
      · have : i.natAbs.log2 < 7 := (Nat.log2_lt z).mpr (by omega)
        omega
  have lq := li q h0 h1
  have lm := li ms.length (by omega) (by omega)
  refine w_cF rfl ?_
  refine w_def rfl ?_
  unfold b_Procedure___str__
  have a0 : Str.empty.length = 0 := rfl
  have a1 : (Str.ofString "procedure ").length = 10 := by decide +kernel
  have a2 : (Str.ofString ", ").length = 2 := by decide +kernel
  have a3 : (Str.ofString " points, ").length = 9 := by decide +kernel
  have a4 : (Str.ofString " moves").length = 6 := by decide +kernel
  refine ws_ret (w_js ?_)
  walk_at "STN"
  refine ⟨by simp only [strLen_append]; omega, w_js ?_⟩
  walk_at "STN"
  refine wg_get (d := .str c) (by decide) (by rfl) (wg_fmtS (by omega) ?_)
  walk_at "STN"
  refine ⟨by simp only [strLen_append]; omega, w_js ?_⟩
  walk_at "STN"
  refine ⟨by simp only [strLen_append]; omega, w_js ?_⟩
  walk_at "STN"
  refine wg_get (d := .int q) (by decide) (by rfl) (wg_fmtI lq.2 ?_)
  walk_at "STN"
  refine ⟨by simp only [strLen_append]; omega, w_js ?_⟩
  walk_at "STN"
  refine ⟨by simp only [strLen_append]; omega, w_js ?_⟩
  walk_at "STN"
  refine wg_get (d := .tup ms) (by decide) (by rfl) ?_
  walk_at "STN"
  refine wg_fmtI lm.2 ?_
  walk_at "STN"
  refine ⟨by simp only [strLen_append]; omega, w_js ?_⟩
  walk_at "STN"
  refine ⟨by simp only [strLen_append]; omega, w_js0 ?_⟩
  rw [PySem.Str.empty_append]
end
end K10
/-! K10z: a drawn procedure and values near it are made as they should be. (printed by mkz.py from K10z.txt) -/
namespace K10
open PySem PySem.Spec PyProof.Rows L2 DN KB
local macro_rules | `(tactic| walk_at "STN") => `(tactic| (repeat (first | with_reducible refine ws_seq ?_ | with_reducible refine ws_asg ?_ | with_reducible refine ws_ret ?_ | with_reducible refine ws_if ?_ | with_reducible refine ws_next ?_ | with_reducible refine ws_retN ?_ | with_reducible refine ws_brk ?_ | with_reducible refine ws_cont ?_ | with_reducible refine ws_drop ?_ | with_reducible refine ws_setI ?_ | with_reducible refine ws_for ?_ | with_reducible refine ws_par ?_ | with_reducible refine ws_frz ?_ | with_reducible refine ws_parO ?_ | with_reducible refine ws_setOwn ?_ | with_reducible refine ⟨fun _ => ?_, fun z => absurd rfl z⟩ | refine And.intro rt_nx fun _ => ?_ | refine And.intro bk_nx fun _ => ?_ | refine And.intro ct_nx fun _ => ?_ | with_reducible refine w_c2 ?_ | with_reducible refine w_c1 ?_ | with_reducible refine w_cA ?_ | with_reducible refine w_cons ?_ | with_reducible refine w_nil ?_ | with_reducible refine w_c ?_ | with_reducible refine w_call ?_ | with_reducible refine w_it ?_ | with_reducible refine w_rng1 ?_ | with_reducible refine w_rng2 ?_ | with_reducible refine w_m0 ?_ | with_reducible refine w_m1 ?_ | with_reducible refine w_sl ?_ | with_reducible refine w_part ?_ | with_reducible refine w_noP ?_ | with_reducible refine w_b ?_ | with_reducible refine w_notB ?_ | with_reducible refine w_if ?_ | with_reducible refine w_chain ?_ | with_reducible refine w_zip ?_ | with_reducible refine w_enum ?_ | with_reducible refine wg_add ?_ | with_reducible refine wg_sub ?_ | with_reducible refine wg_neg ?_ | with_reducible refine wg_lt ?_ | with_reducible refine wg_le ?_ | with_reducible refine wg_gt ?_ | with_reducible refine wg_ge ?_ | with_reducible refine wg_not ?_ | with_reducible refine wg_lenL ?_ | with_reducible refine wg_lenT ?_ | with_reducible refine wg_lenC ?_ | with_reducible refine wg_int ?_ | with_reducible refine wg_intB ?_ | with_reducible refine wg_abs ?_ | with_reducible refine wg_max2 ?_ | with_reducible refine wg_min2 ?_ | with_reducible refine wg_reprB ?_ | with_reducible refine wg_itL ?_ | with_reducible refine wg_itT ?_ | with_reducible refine wg_itC ?_ | with_reducible refine wg_itS ?_ | with_reducible refine wg_slL ?_ | with_reducible refine wg_slT ?_ | with_reducible refine wg_tupleL ?_ | with_reducible refine wg_tupleT ?_ | with_reducible refine wg_listL ?_ | with_reducible refine wg_listT ?_ | with_reducible refine wg_revL ?_ | with_reducible refine wg_revT ?_ | with_reducible refine wg_zipT ?_ | with_reducible refine wg_allM ?_ | with_reducible refine wg_anyM ?_ | with_reducible refine w_var (by with_unfolding_all rfl) ?_ | with_reducible refine wg_mul (Or.inr (by decide)) ?_ | with_reducible refine wg_mul (Or.inl (by decide)) ?_ | with_reducible refine wg_mod (by decide +kernel) ?_ | with_reducible refine wg_fdiv (by decide) ?_ | with_reducible refine wg_pow (by decide +kernel) ?_ | with_reducible refine wg_tup (by simp; done) ?_ | with_reducible refine wg_lst (by simp; done) ?_ | with_reducible refine w_dieSet (by decide) ?_ | with_reducible refine w_dieAt (by decide) (fun _ => ?_) | refine ⟨_, rfl, ?_⟩ | refine ⟨rfl, ?_⟩ | with_reducible refine wg_ltI ?_ | with_reducible refine wg_mulAI (Or.inr (by decide)) ?_ | with_reducible refine wg_mulAI (Or.inl (by decide)) ?_ | with_reducible refine w_dieSetP (by decide) ?_ | with_reducible refine w_cF rfl ?_ | with_reducible refine wg_neEI ?_ | with_reducible refine wg_neEB ?_ | with_reducible refine wg_neL ?_ | with_reducible refine wg_neT ?_ | with_reducible refine wg_lenIT ?_ | with_reducible refine wg_lenIL ?_ | with_reducible refine wg_lenIC ?_ | with_reducible refine ws_match ?_ | with_reducible refine ws_parV ?_ | with_reducible refine w_dieAtP (by decide) (fun _ => ?_))))
theorem eqS_refl {d : D} (h : fin0 d = true) (hd : ∀ kvs, d ≠ .dct kvs) : eqS d d = true := by
  cases d with
  | non => rfl
  | bl b => exact beq_self_eq_true b
  | int i => exact beq_self_eq_true i
  | str z => exact beq_self_eq_true z
  | dct kvs => exact absurd rfl (hd kvs)
  | _ => cases h
theorem allN_refl {n : Nat} (ih : ∀ {d : D}, finD n d = true → ∀ k, n < k → eqN k d d = some true) : ∀ {xs : List D}, (∀ x ∈ xs, finD n x = true) → ∀ k, n < k → allN (eqN k) xs xs = some true
  | [], _, _, _ => rfl
  | x :: xs, h, k, hk => by
    show (match eqN k x x, allN (eqN k) xs xs with | some a, some b => some (a && b) | _, _ => none) = _
    rw [ih (h x List.mem_cons_self) k hk, allN_refl ih (fun y hy => h y (List.mem_cons_of_mem _ hy)) k hk]
    rfl
theorem eqN_refl : ∀ (n : Nat) {d : D}, finD n d = true → ∀ k, n < k → eqN k d d = some true := by
  intro n
  induction n with
  | zero =>
    intro d h k hk
    obtain ⟨j, rfl⟩ : ∃ j, k = j + 1 := ⟨k - 1, by omega⟩
    obtain ⟨i, ki⟩ := (fin_kn h).2
    rw [eqN_unf ki ki, if_pos rfl]
    cases d with
    | dct _ => rfl
    | non => rfl
    | bl b => exact congrArg some (eqS_refl h fun _ z => nomatch z)
    | int b => exact congrArg some (eqS_refl h fun _ z => nomatch z)
    | str b => exact congrArg some (eqS_refl h fun _ z => nomatch z)
    | _ => cases h
  | succ n ih =>
    intro d h k hk
    obtain ⟨j, rfl⟩ : ∃ j, k = j + 1 := ⟨k - 1, by omega⟩
    obtain ⟨i, ki⟩ := (fin_kn h).2
    rw [eqN_unf ki ki, if_pos rfl]
    cases d with
    | tup xs =>
      show (allN (eqN j) xs xs).map _ = _
      rw [allN_refl ih (fin_tup.mp h).2 j (by omega)]
      show some (true && decide (xs.length = xs.length)) = _
      rw [decide_eq_true rfl]; rfl
    | lst xs =>
      show (if xs.length = xs.length then allN (eqN j) xs xs else some false) = _
      rw [if_pos rfl, allN_refl ih (fin_lst.mp h).2 j (by omega)]
    | dct _ => rfl
    | non => rfl
    | bl b => exact congrArg some (eqS_refl h fun _ z => nomatch z)
    | int b => exact congrArg some (eqS_refl h fun _ z => nomatch z)
    | str b => exact congrArg some (eqS_refl h fun _ z => nomatch z)
    | _ => cases h
theorem drawn_fin {p : Int} {d : D} (h : DrawnM p d) : finD 4 d = true := by
  obtain ⟨_, ys, rfl, _, h5, hy, _⟩ := h
  exact fin_tup.mpr ⟨by show ys.length ≤ 6; omega, fun y h => fin_up _ (hy y h)⟩
theorem name_str {d : D} (h : d ∈ nameL) : ∃ z : Str, d = .str z ∧ z ∈ WL := by
  unfold nameL at h
  simp only [List.mem_cons, List.not_mem_nil, or_false] at h
  rcases h with h | h | h
  · exact ⟨"main", h, by decide +kernel⟩
  · exact ⟨"p", h, by decide +kernel⟩
  · exact ⟨"q", h, by decide +kernel⟩
theorem wg_notNp {I : Store → Prop} {P : D → Prop} {X : XP} {c q : D} {ms : List D} (h : P (.bl true)) : Wp I (gNotN (procD c q ms) .non) P X := Wp.pure h
theorem wg_notN0 {I : Store → Prop} {P : D → Prop} {X : XP} (h : P (.bl false)) : Wp I (gNotN .non .non) P X := Wp.pure h
theorem rep5 (x : D) : (List.replicate (Int.toNat 5) [x]).flatten = [x, x, x, x, x] := rfl
abbrev turnB : Sm := (cSeq (cAsg (cCall 3 F_law_is_due (cCons (cVar 15) (cCons (cVar 16) (cCons (cVar 17) (cNil))))) (bName 10)) (cSeq (cAsg (cMetN "InvalidProgram" (cA (fun ds => (cF 4 F_Procedure_of) (.cls "Procedure" :: ds)) (cCons (cVar 15) (cCons (cVar 16) (cCons (cVar 17) (cNil)))))) (bName 11)) (cSeq (cIfS (cB (c2 (gNeJ "Procedure" (cF 2 F_Procedure___eq__)) (c2 gNotN (cVar 11) (cC .non)) (cVar 10))) (cRet (cC (.bl false))) (cNext)) (cSeq (cIfS (cAndB (cB (cVar 10)) (cNotB (cB (cCall 2 F_law_is_as (cCons (cVar 11) (cCons (cA gLst (cCons (cVar 15) (cCons (cVar 16) (cCons (cVar 17) (cNil))))) (cNil))))))) (cRet (cC (.bl false))) (cNext)) (cSeq (cAsg (c2 (gEqI "Procedure" (cF 2 F_Procedure___eq__)) (cA gLst (cCons (cVar 15) (cCons (cVar 16) (cCons (cVar 17) (cNil))))) (cA gLst (cCons (cVar 5) (cCons (cVar 6) (cCons (cVar 7) (cNil)))))) (bName 12)) (cIfS (cAndB (cB (cVar 10)) (cB (c2 (gNeJ "Procedure" (cF 2 F_Procedure___eq__)) (c2 (gEqI "Procedure" (cF 2 F_Procedure___eq__)) (cVar 11) (cVar 1)) (cVar 12)))) (cRet (cC (.bl false))) (cNext)))))))
abbrev turnA : Sm := (cSeq (cPar 13 14 (cCons (cCall 1 F_law_odd_one (cCons (cVar 0) (cNil))) (cCons (cCall 2 F_law_cast (cCons (cVar 0) (cCons (cA (gLenI "Procedure" (cF 1 F_Procedure___len__)) (cCons (cVar 7) (cNil))) (cNil)))) (cNil)))) (cSeq (cAsg (c2 gAdd (c2 gAdd (cSl (cVar 7) (cNoP) (cPart (cVar 14))) (cA gTup (cCons (cCall 2 F_law_bent_move (cCons (cVar 0) (cCons (c2 gIx (cVar 7) (cVar 14)) (cNil)))) (cNil)))) (cSl (cVar 7) (cPart (c2 gAdd (cVar 14) (cC (.int 1)))) (cNoP))) (bName 8)) (cSeq (cAsg (c2 gAdd (c2 gMulA (cA gLst (cCons (cA gLst (cCons (cVar 5) (cCons (cVar 6) (cCons (cVar 8) (cNil))))) (cNil))) (cC (.int 5))) (cA gLst (cCons (cA gLst (cCons (cVar 13) (cCons (cVar 6) (cCons (cVar 7) (cNil))))) (cCons (cA gLst (cCons (cVar 5) (cCons (cVar 13) (cCons (cVar 7) (cNil))))) (cNil))))) (bName 9)) (cSeq (cAsg (c2 gAdd (cVar 9) (cA gLst (cCons (cA gLst (cCons (cVar 5) (cCons (cVar 6) (cCons (cCall 3 F_law_bent_tuple (cCons (cVar 0) (cCons (cVar 7) (cCons (cVar 13) (cNil))))) (cNil))))) (cCons (cA gLst (cCons (cVar 5) (cCons (cVar 6) (cCons (c2 gMulA (cVar 7) (cCall 2 F_law_cast (cCons (cVar 0) (cCons (cC (.int 9)) (cNil))))) (cNil))))) (cNil))))) (bName 9)) (cSeq (cAsg (cCall 2 F_law_pick (cCons (cVar 0) (cCons (cVar 9) (cNil)))) (bTup [bName 15, bName 16, bName 17])) turnB)))))
/-- what a band is -/
structure Band (name : D) (p : Nat) (ms : List D) : Prop where
  nm : name ∈ nameL
  p1 : 1 ≤ p
  p3 : p ≤ 3
  l2 : 2 ≤ ms.length
  l5 : ms.length ≤ 5
  ok : ∀ m ∈ ms, DrawnM p m
section
variable {name : D} {p : Nat} {ms : List D} {n : Nat} {X : XP}
theorem Band.fn (b : Band name p ms) : finD 5 name = true := fin_le (name_ok b.nm).2.1 (by decide)
theorem Band.fp (b : Band name p ms) : finD 5 (.int p) = true := fin_i (by omega) (by have := b.p3; omega)
theorem Band.f4 (b : Band name p ms) : ∀ m ∈ ms, finD 4 m = true := fun m h => drawn_fin (b.ok m h)
theorem Band.fm (b : Band name p ms) : finD 5 (.tup ms) = true := fin_tup.mpr ⟨by have := b.l5; show ms.length ≤ 40; omega, b.f4⟩
theorem Band.due (b : Band name p ms) : dueB name (.int p) (.tup ms) = true := by
  have h1 := b.p1
  have h2 := b.p3
  have h3 := b.l5
  have a : ms.all (stepB (intO (.int p))) = true := List.all_eq_true.mpr fun m h => (b.ok m h).1
  have o : okP (.int p) = true := by
    show (decide (0 < (p : Int)) && decide ((p : Int) ≤ 6)) = true
    rw [decide_eq_true (show 0 < (p : Int) by omega), decide_eq_true (show (p : Int) ≤ 6 by omega)]; rfl
  rw [due_eq, (name_ok b.nm).1, o, decide_eq_true (show ms.length ≤ 12 by omega), a]
  rfl
def EnvR (n : Nat) (name : D) (p : Nat) (ms : List D) (ρ : DN.Env) : Prop := ∃ s2 s3 s4 s8 s9 s10 s11 s12 s13 s14 s15 s16 s17 : Sl, ρ = [.val (.mut n), .val (procD name (.int p) ms), s2, s3, s4, .val name, .val (.int p), .val (.tup ms), s8, s9, s10, s11, s12, s13, s14, s15, s16, s17]
theorem w_turnB {ρ : DN.Env} {c q m : D} {s2 s3 s4 s8 s9 s10 s11 s12 s13 s14 : Sl} (b : Band name p ms) (hρ : ρ = [.val (.mut n), .val (procD name (.int p) ms), s2, s3, s4, .val name, .val (.int p), .val (.tup ms), s8, s9, s10, s11, s12, s13, s14, .val c, .val q, .val m])
    (hc : finD 5 c = true) (hq : finD 5 q = true) (hm : finD 5 m = true) : Ws (IsDiP n) (turnB ρ) (fun fl ρ' => fl = .nx ∧ EnvR n name p ms ρ') X := by
  subst hρ
  obtain ⟨b1, b2, b3, e1, e2, e3, e4⟩ := eq_three hc hq hm b.fn b.fp b.fm
  unfold turnB
  walk_at "STN"
  refine (w_due hc hq hm).imp (fun r hr => ?_) fun _ _ x => x
  subst hr
  walk_at "STN"
  refine Wp.imp (P := fun made => (∃ ms', m = .tup ms' ∧ dueB c q m = true ∧ made = procD c q ms') ∨ (dueB c q m = false ∧ made = .non)) (X := X) (w_metN ?_) (fun made hmade => ?_) fun _ _ x => x
  · walk_at "STN"
    exact w_of (fun S i => i.2) hc hq hm (fun ms' e hd => .inl ⟨ms', e, hd, rfl⟩) (fun hd => ⟨rfl, rfl, .inr ⟨hd, rfl⟩⟩)
  · rcases hmade with ⟨ms', rfl, hd, rfl⟩ | ⟨hd, rfl⟩
    · rw [hd]
      rw [due_eq, Bool.and_eq_true, Bool.and_eq_true, Bool.and_eq_true, decide_eq_true_eq] at hd
      obtain ⟨hw, ho, hl, _⟩ := hd
      walk_at "STN"
      refine wg_notNp ?_
      walk_at "STN"
      refine wg_neJN rfl (wg_neEB ?_)
      refine ⟨_, rfl, fun z => absurd z (by decide), fun _ => ?_⟩
      walk_at "STN"
      refine w_andB ?_
      walk_at "STN"
      refine ⟨fun _ => ?_, fun z => (nomatch z)⟩
      walk_at "STN"
      refine (w_is_as (fin_word hc hw) (okP_fin ho) (fin_tup.mp hm).2 hl).imp (fun r hr => ?_) fun _ _ x => x
      subst hr
      walk_at "STN"
      refine ⟨fun z => (nomatch z), fun _ => ?_⟩
      walk_at "STN"
      refine wg_eqIN rfl e4 ?_
      walk_at "STN"
      refine w_andB ?_
      walk_at "STN"
      refine ⟨fun _ => ?_, fun z => (nomatch z)⟩
      walk_at "STN"
      refine wg_eqI (beq_self_eq_true (α := Str) "Procedure") ((w_eqP e1 e2 e3).imp (fun r hr => ⟨_, hr, ?_⟩) fun _ _ x => x)
      walk_at "STN"
      refine wg_neJN rfl (wg_neEB ?_)
      rw [decide_eq_true rfl]
      refine ⟨_, rfl, fun z => (nomatch z), fun _ => ?_⟩
      walk_at "STN"
      exact ⟨_, _, _, _, _, _, _, _, _, _, _, _, _, rfl⟩
    · rw [hd]
      walk_at "STN"
      refine wg_notN0 ?_
      walk_at "STN"
      refine wg_neJN rfl (wg_neEB ?_)
      refine ⟨_, rfl, fun z => absurd z (by decide), fun _ => ?_⟩
      walk_at "STN"
      refine w_andB ?_
      walk_at "STN"
      refine ⟨fun z => (nomatch z), fun _ => ?_⟩
      refine ⟨fun z => (nomatch z), fun _ => ?_⟩
      walk_at "STN"
      refine wg_eqIN rfl e4 ?_
      walk_at "STN"
      refine w_andB ?_
      walk_at "STN"
      refine ⟨fun z => (nomatch z), fun _ => ?_⟩
      refine ⟨fun z => (nomatch z), fun _ => ?_⟩
      walk_at "STN"
      exact ⟨_, _, _, _, _, _, _, _, _, _, _, _, _, rfl⟩
theorem w_turnA {ρ : DN.Env} (b : Band name p ms) (hρ : EnvR n name p ms ρ) : Ws (IsDiP n) (turnA ρ) (fun fl ρ' => fl = .nx ∧ EnvR n name p ms ρ') X := by
  obtain ⟨s2, s3, s4, s8, s9, s10, s11, s12, s13, s14, s15, s16, s17, rfl⟩ := hρ
  have l2 := b.l2
  have l5 := b.l5
  unfold turnA
  walk_at "STN"
  refine w_odd.imp (fun odd ho => ?_) fun _ _ x => x
  have fo := odd_fin odd ho
  walk_at "STN"
  refine (w_cast (by omega) (by omega)).imp (fun d ⟨r, e, a, a2⟩ => ?_) fun _ _ x => x
  subst e
  walk_at "STN"
  refine ⟨_, _, rfl, fun _ => ?_, fun z => absurd rfl z⟩
  walk_at "STN"
  have kr : r = (r.toNat : Int) := (Int.toNat_of_nonneg a).symm
  have c1 : cutD ms none (some r) = ms.take r.toNat := cutD_take ms kr
  have c2 : cutD ms (some (r + 1)) none = ms.drop (r.toNat + 1) := cutD_drop ms (by omega)
  obtain ⟨mv, e, e2⟩ := at_some (xs := ms) a (by omega)
  refine wg_ixT e ?_
  walk_at "STN"
  obtain ⟨_, ys, rfl, y0, y5, hy, ht⟩ := b.ok _ (List.mem_of_getElem? e2)
  refine (w_bent_move y0 y5 hy ht).imp (fun bent hb => ?_) fun _ _ x => x
  walk_at "STN"
  rw [c1]
  refine wg_addT (by simp only [List.length_take, List.length_cons, List.length_nil]; omega) ?_
  walk_at "STN"
  rw [c2]
  refine wg_addT (by simp only [List.length_append, List.length_drop, List.length_take, List.length_cons, List.length_nil]; omega) ?_
  have fb : finD 5 (.tup ((ms.take r.toNat ++ [bent]) ++ ms.drop (r.toNat + 1))) = true := by
    refine fin_tup.mpr ⟨?_, fun y hy2 => ?_⟩
    · show _ ≤ 40
      simp only [List.length_append, List.length_drop, List.length_take, List.length_cons, List.length_nil]; omega
    · simp only [List.mem_append, List.mem_cons, List.not_mem_nil, or_false] at hy2
      rcases hy2 with (h | h) | h
      · exact b.f4 y (List.mem_of_mem_take h)
      · rw [h]; exact hb
      · exact b.f4 y (List.mem_of_mem_drop h)
  generalize (ms.take r.toNat ++ [bent]) ++ ms.drop (r.toNat + 1) = bt at fb
  refine ⟨_, rfl, fun _ => ?_, fun z => absurd rfl z⟩
  walk_at "STN"
  refine wg_mulAL ⟨by decide, by decide, by simp⟩ ?_
  rw [rep5]
  walk_at "STN"
  refine wg_addL (by simp) ?_
  walk_at "STN"
  refine (w_bent_tuple (m := 4) (by show ms.length + 1 ≤ 40; omega) b.f4 (fin_le fo (by decide))).imp (fun bt2 hb2 => ?_) fun _ _ x => x
  walk_at "STN"
  refine (w_cast (by decide) (by decide)).imp (fun d ⟨k, e, k0, k9⟩ => ?_) fun _ _ x => x
  subst e
  walk_at "STN"
  have ne : ms.isEmpty = false := by
    cases ms with
    | nil => exact absurd l2 (by decide)
    | cons _ _ => rfl
  refine wg_mulAT ne ⟨k0, by omega, by omega⟩ ?_
  have fr : finD 5 (.tup (List.replicate k.toNat ms).flatten) = true := by
    refine fin_tup.mpr ⟨?_, fun y hy2 => ?_⟩
    · show _ ≤ 40
      have : (List.replicate k.toNat ms).flatten.length = k.toNat * ms.length := by simp
      rw [this]
      exact Nat.le_trans (Nat.mul_le_mul (show k.toNat ≤ 8 by omega) l5) (by decide)
    · obtain ⟨l, hl, hy3⟩ := List.mem_flatten.mp hy2
      rw [List.eq_of_mem_replicate hl] at hy3
      exact b.f4 y hy3
  generalize (List.replicate k.toNat ms).flatten = rp at fr
  walk_at "STN"
  refine wg_addL (by simp) ?_
  walk_at "STN"
  refine (w_pickL (by simp) (by simp)).imp (fun row hr => ?_) fun _ _ x => x
  have f5 : finD 5 odd = true := fin_le fo (by decide)
  obtain ⟨c, q, m, rfl, hc, hq, hm⟩ : ∃ c q m, row = .lst [c, q, m] ∧ finD 5 c = true ∧ finD 5 q = true ∧ finD 5 m = true := by
    simp only [List.cons_append, List.nil_append, List.mem_cons, List.not_mem_nil, or_false] at hr
    rcases hr with h | h | h | h | h | h | h | h | h
    · exact ⟨_, _, _, h, b.fn, b.fp, fb⟩
    · exact ⟨_, _, _, h, b.fn, b.fp, fb⟩
    · exact ⟨_, _, _, h, b.fn, b.fp, fb⟩
    · exact ⟨_, _, _, h, b.fn, b.fp, fb⟩
    · exact ⟨_, _, _, h, b.fn, b.fp, fb⟩
    · exact ⟨_, _, _, h, f5, b.fp, b.fm⟩
    · exact ⟨_, _, _, h, b.fn, f5, b.fm⟩
    · exact ⟨_, _, _, h, b.fn, b.fp, hb2⟩
    · exact ⟨_, _, _, h, b.fn, b.fp, fr⟩
  refine ⟨_, rfl, fun _ => ?_, fun z => absurd rfl z⟩
  exact w_turnB b rfl hc hq hm
theorem w_right : Wp (IsDiP n) (F_law_right [.mut n]) (fun r => r = .bl true) X := by
  refine w_def rfl ?_
  unfold b_law_right
  walk_at "STN"
  refine w_any_plain.imp (fun d ⟨t0, s0, b0, bands, e, l1, l3, hb⟩ => ?_) fun _ _ x => x
  subst e
  walk_at "STN"
  refine wg_ixL (d := .lst bands) (by rfl) ?_
  walk_at "STN"
  refine (w_pickL (by omega) (by omega)).imp (fun d hd => ?_) fun _ _ x => x
  obtain ⟨name, p, ms, rfl, nm, p1, p3, m2, m5, ok⟩ := hb d hd
  have b : Band name p ms := ⟨nm, p1, p3, m2, m5, ok⟩
  have of1 : ∀ {X : XP}, Wp (IsDiP n) (cF 4 F_Procedure_of [.cls "Procedure", name, .int p, .tup ms]) (fun r => r = procD name (.int p) ms) X := fun {X} =>
    w_of (fun S i => i.2) b.fn b.fp b.fm (fun ms' e _ => by cases e; rfl) (fun h => by rw [b.due] at h; cases h)
  have er : eqN 50 name name = some true := eqN_refl 5 b.fn 50 (by decide)
  have er2 : eqN 50 (.int p) (.int p) = some true := eqN_refl 5 b.fp 50 (by decide)
  have er3 : eqN 50 (.tup ms) (.tup ms) = some true := eqN_refl 5 b.fm 50 (by decide)
  obtain ⟨z, rfl, zw⟩ := name_str nm
  have lz : z.length ≤ 9 := by
    have h : (WL.all fun z => decide (z.length ≤ 9)) = true := by decide +kernel
    exact of_decide_eq_true (List.all_eq_true.mp h z zw)
  have li : ∀ i : Int, 0 ≤ i → i ≤ 99 → (Str.ofString (toString i)).length ≤ 3 ∧ i.natAbs.log2 < 1920 := fun i a b => by
    refine ⟨?_, ?_⟩
    · rw [ofStr_len]
      have := PySem.int_text_length_le10 (a := i) (k := 2) (by decide) (by omega)
      omega
    · by_cases z : i.natAbs = 0
      · rw [z]; decide
      · have : i.natAbs.log2 < 7 := (Nat.log2_lt z).mpr (by omega)
        omega
  have lq := li p (by omega) (by omega)
  have lm := li ms.length (by omega) (by omega)
  have fz : fin0 (.str z) = true := fin_word b.fn (name_ok nm).1
  obtain ⟨pd, pe, pok⟩ := repr_ok (row_shs (r := [.int ms.length, .bl true]) fz (fin_i (m := 0) (i := p) (by omega) (by omega)) b.f4 (by omega) (fun x hx => by
    simp only [List.mem_cons, List.not_mem_nil, or_false] at hx
    rcases hx with h | h <;> subst h
    · exact fin_i (m := 0) (by omega) (by omega)
    · rfl) (by show 2 ≤ 4; decide)) (by decide) (by decide)
  have a1 : (Str.ofString "procedure ").length = 10 := by decide +kernel
  have a2 : (Str.ofString ", ").length = 2 := by decide +kernel
  have a3 : (Str.ofString " points, ").length = 9 := by decide +kernel
  have a4 : (Str.ofString " moves").length = 6 := by decide +kernel
  refine ⟨_, rfl, fun _ => ?_, fun z => absurd rfl z⟩
  walk_at "STN"
  refine of1.imp (fun r hr => ?_) fun _ _ x => x
  subst hr
  walk_at "STN"
  refine wg_prop (w_called.imp (fun r hr => ?_) fun _ _ x => x)
  subst hr
  walk_at "STN"
  refine wg_prop (w_points.imp (fun r hr => ?_) fun _ _ x => x)
  subst hr
  walk_at "STN"
  refine wg_prop (w_moves.imp (fun r hr => ?_) fun _ _ x => x)
  subst hr
  walk_at "STN"
  refine wg_lenI (w_len.imp (fun r hr => ⟨_, hr, ⟨by omega, by omega⟩, ?_⟩) fun _ _ x => x)
  walk_at "STN"
  refine of1.imp (fun r hr => ?_) fun _ _ x => x
  subst hr
  walk_at "STN"
  refine wg_eqI (beq_self_eq_true (α := Str) "Procedure") ((w_eqP er er2 er3).imp (fun r hr => ⟨_, hr, ?_⟩) fun _ _ x => x)
  walk_at "STN"
  refine wg_reprS pe pok ?_
  walk_at "STN"
  refine wg_reprS pe pok ?_
  refine wg_neJN rfl (wg_neES ?_)
  rw [beq_self_eq_true]
  refine ⟨_, rfl, fun z => (nomatch z), fun _ => ?_⟩
  walk_at "STN"
  refine wg_addS (by omega) ?_
  walk_at "STN"
  refine wg_addS (by simp only [strLen_append]; omega) ?_
  walk_at "STN"
  refine wg_strII lq.2 ?_
  refine wg_addS (by simp only [strLen_append]; omega) ?_
  walk_at "STN"
  refine wg_addS (by simp only [strLen_append]; omega) ?_
  walk_at "STN"
  refine wg_strI ((w_str zw (by omega) (by omega) (by omega)).imp (fun r hr => ⟨_, hr, ?_⟩) fun _ _ x => x)
  walk_at "STN"
  refine wg_strII lm.2 ?_
  refine wg_addS (by simp only [strLen_append]; omega) ?_
  walk_at "STN"
  refine wg_addS (by simp only [strLen_append]; omega) ?_
  refine wg_neJN rfl (wg_neES ?_)
  rw [beq_self_eq_true]
  refine ⟨_, rfl, fun z => (nomatch z), fun _ => ?_⟩
  walk_at "STN"
  refine wg_rngN (k := 8) (by decide) ?_
  refine ws_forL (J := fun ds ρ => EnvR n (.str z) p ms ρ) ?_ ?_ _ _ ⟨_, _, _, _, _, _, _, _, _, _, _, _, _, rfl⟩
  · rintro x ds ρ ⟨s2, s3, s4, s8, s9, s10, s11, s12, s13, s14, s15, s16, s17, rfl⟩
    refine ⟨_, rfl, ?_⟩
    refine (w_turnA b ⟨_, _, _, _, _, _, _, _, _, _, _, _, _, rfl⟩).imp (fun fl ρ' ⟨e, h⟩ => ?_) fun _ _ x => x
    subst e
    exact h
  · rintro ρ ⟨s2, s3, s4, s8, s9, s10, s11, s12, s13, s14, s15, s16, s17, rfl⟩
    refine ⟨fun _ => ?_, fun z => absurd rfl z⟩
    refine ws_ret (w_andV ?_)
    walk_at "STN"
    refine wg_eqI rfl ((w_eqO rfl ⟨_, rfl⟩).imp (fun r hr => ⟨_, hr, ?_⟩) fun _ _ x => x)
    walk_at "STN"
    refine ⟨fun _ => ?_, fun z => (nomatch z)⟩
    refine w_andV ?_
    walk_at "STN"
    refine wg_neJ rfl ((w_eqO rfl ⟨_, rfl⟩).imp (fun r hr => ⟨_, hr, ?_⟩) fun _ _ x => x)
    refine ⟨_, rfl, fun _ => ?_, fun z => (nomatch z)⟩
    walk_at "STN"
    refine wg_neJ rfl ((w_eqO rfl ⟨_, rfl⟩).imp (fun r hr => ⟨_, hr, ?_⟩) fun _ _ x => x)
    rfl
end
end K10
/-! K10m: the law. -/
namespace K10
open PySem PySem.Spec PyProof.Rows L2 DN KB
local macro_rules | `(tactic| walk_at "STN") => `(tactic| (repeat (first | with_reducible refine ws_seq ?_ | with_reducible refine ws_asg ?_ | with_reducible refine ws_ret ?_ | with_reducible refine ws_if ?_ | with_reducible refine ws_next ?_ | with_reducible refine ws_retN ?_ | with_reducible refine ws_brk ?_ | with_reducible refine ws_cont ?_ | with_reducible refine ws_drop ?_ | with_reducible refine ws_setI ?_ | with_reducible refine ws_for ?_ | with_reducible refine ws_par ?_ | with_reducible refine ws_frz ?_ | with_reducible refine ws_parO ?_ | with_reducible refine ws_setOwn ?_ | with_reducible refine ⟨fun _ => ?_, fun z => absurd rfl z⟩ | refine And.intro rt_nx fun _ => ?_ | refine And.intro bk_nx fun _ => ?_ | refine And.intro ct_nx fun _ => ?_ | with_reducible refine w_c2 ?_ | with_reducible refine w_c1 ?_ | with_reducible refine w_cA ?_ | with_reducible refine w_cons ?_ | with_reducible refine w_nil ?_ | with_reducible refine w_c ?_ | with_reducible refine w_call ?_ | with_reducible refine w_it ?_ | with_reducible refine w_rng1 ?_ | with_reducible refine w_rng2 ?_ | with_reducible refine w_m0 ?_ | with_reducible refine w_m1 ?_ | with_reducible refine w_sl ?_ | with_reducible refine w_part ?_ | with_reducible refine w_noP ?_ | with_reducible refine w_b ?_ | with_reducible refine w_notB ?_ | with_reducible refine w_if ?_ | with_reducible refine w_chain ?_ | with_reducible refine w_zip ?_ | with_reducible refine w_enum ?_ | with_reducible refine wg_add ?_ | with_reducible refine wg_sub ?_ | with_reducible refine wg_neg ?_ | with_reducible refine wg_lt ?_ | with_reducible refine wg_le ?_ | with_reducible refine wg_gt ?_ | with_reducible refine wg_ge ?_ | with_reducible refine wg_not ?_ | with_reducible refine wg_lenL ?_ | with_reducible refine wg_lenT ?_ | with_reducible refine wg_lenC ?_ | with_reducible refine wg_int ?_ | with_reducible refine wg_intB ?_ | with_reducible refine wg_abs ?_ | with_reducible refine wg_max2 ?_ | with_reducible refine wg_min2 ?_ | with_reducible refine wg_reprB ?_ | with_reducible refine wg_itL ?_ | with_reducible refine wg_itT ?_ | with_reducible refine wg_itC ?_ | with_reducible refine wg_itS ?_ | with_reducible refine wg_slL ?_ | with_reducible refine wg_slT ?_ | with_reducible refine wg_tupleL ?_ | with_reducible refine wg_tupleT ?_ | with_reducible refine wg_listL ?_ | with_reducible refine wg_listT ?_ | with_reducible refine wg_revL ?_ | with_reducible refine wg_revT ?_ | with_reducible refine wg_zipT ?_ | with_reducible refine wg_allM ?_ | with_reducible refine wg_anyM ?_ | with_reducible refine w_var (by with_unfolding_all rfl) ?_ | with_reducible refine wg_mul (Or.inr (by decide)) ?_ | with_reducible refine wg_mul (Or.inl (by decide)) ?_ | with_reducible refine wg_mod (by decide +kernel) ?_ | with_reducible refine wg_fdiv (by decide) ?_ | with_reducible refine wg_pow (by decide +kernel) ?_ | with_reducible refine wg_tup (by simp; done) ?_ | with_reducible refine wg_lst (by simp; done) ?_ | with_reducible refine w_dieSet (by decide) ?_ | with_reducible refine w_dieAt (by decide) (fun _ => ?_) | refine ⟨_, rfl, ?_⟩ | refine ⟨rfl, ?_⟩ | with_reducible refine wg_ltI ?_ | with_reducible refine wg_mulAI (Or.inr (by decide)) ?_ | with_reducible refine wg_mulAI (Or.inl (by decide)) ?_ | with_reducible refine w_dieSetP (by decide) ?_ | with_reducible refine w_cF rfl ?_ | with_reducible refine wg_neEI ?_ | with_reducible refine wg_neEB ?_ | with_reducible refine wg_neL ?_ | with_reducible refine wg_neT ?_ | with_reducible refine wg_lenIT ?_ | with_reducible refine wg_lenIL ?_ | with_reducible refine wg_lenIC ?_ | with_reducible refine ws_match ?_ | with_reducible refine ws_parV ?_ | with_reducible refine w_dieAtP (by decide) (fun _ => ?_))))
def plS (S : Store) : Prop := S.all plC = true
theorem w_call_new {ρ : DN.Env} {F G : List D → M D} {fs : DN.Env → M (List D)} {P : D → Prop} {X : XP} (h1 : ∀ S, plS S → ∃ S', cCall 2 G fs ρ S = .ok (.mut S.length) S' ∧ IsDiP S.length S') (h2 : ∀ n, Wp (IsDiP n) (F [.mut n]) P X) : Wp plS (cCall 1 F (cCons (cCall 2 G fs) cNil) ρ) P X := Wp.mk fun S s => by
  obtain ⟨S', e, hd⟩ := h1 S s
  have k := (h2 S.length).at_ S' hd
  have q : cCall 1 F (cCons (cCall 2 G fs) cNil) ρ S = F [.mut S.length] S' := by
    revert e
    generalize cCall 2 G fs = fm
    intro e
    simp only [cCall, cA, cCons, cNil, bind_run, M.pure, e, List.length_cons, List.length_nil, Nat.reduceAdd, if_true]
  rw [q]
  cases r : F [.mut S.length] S' with
  | ok a S2 => rw [r] at k; exact ⟨k.1, k.2.2⟩
  | exc c f S2 => rw [r] at k; exact ⟨k.1, k.2.2⟩
  | bad => rw [r] at k; exact k
def wideM : D := .tup [.str "go", .int 0, .int 5, .tup ((List.range 25).map fun (k : Nat) => .tup [.int ((k : Int) / 5), .int ((k : Int) % 5)])]
def wideL : List D := List.replicate 12 wideM
abbrev wideT : DN.Env → M D := (c2 gMulA (cA gTup (cCons (cA gTup (cCons (cC (.str "go")) (cCons (cC (.int 0)) (cCons (cC (.int 5)) (cCons (cA gTuple (cCons (cComp (cRng1 (cC (.int 25))) (bName 1) (cYes) (cA gTup (cCons (c2 gFdiv (cVar 1) (cC (.int 5))) (cCons (c2 gMod (cVar 1) (cC (.int 5))) (cNil)))) [1]) (cNil))) (cNil)))))) (cNil))) (cC (.int 12)))
theorem wide_run (s0 s1 s2 s3 s4 s5 : Sl) (S : Store) : wideT [s0, s1, s2, s3, s4, s5] S = .ok (.tup wideL) S := by kernel_rfl
theorem wide_move (S : Store) : F_is_move [wideM, .int 6] S = .ok (.bl true) S := by kernel_rfl
theorem wide_pl : plDs wideL = true ∧ plD wideM = true := by decide +kernel
section
variable {I : Store → Prop} {X : XP}
theorem wp_at {F : M D} {d : D} (h : ∀ S, F S = .ok d S) : Wp I F (fun r => r = d) X := Wp.mk fun S s => by rw [h S]; exact ⟨rfl, s⟩
theorem ws_chk2W {ρ : DN.Env} {c : D} {p : Int} {n : Nat} {ms : List D} (hρ : ρ = [.val (.mut n), .val c, .val (.int p), .val (.tup ms), .un]) (hl : ms.length ≤ 1000) (hm : ∀ x ∈ ms, Wp I (F_is_move [x, .int p]) (fun r => r = .bl true) X0) :
    Ws I ((cIfS (cOrB (cB (c2 gGt (cA gLen (cCons (cVar 3) (cNil))) (cC (.int (12))))) (cNotB (cB (cA gAll (cCons (cComp (cIt (cVar 3)) (bName 4) (cYes) (cCall 2 F_is_move (cCons (cVar 4) (cCons (cVar 2) (cNil)))) [4]) (cNil)))))) (cRaise "InvalidProgram") (cNext)) ρ)
      (fun fl ρ' => fl = .nx ∧ ρ' = ρ ∧ ms.length ≤ 12) (fun c0 fs => c0 = IP ∧ fs = [] ∧ 12 < ms.length) := by
  subst hρ
  refine ws_if (w_orB ?_)
  walk_at "STN"
  refine ⟨fun b => ?_, fun b => ?_⟩
  · have b := of_decide_eq_false b
    refine w_notB (w_b (w_allc (fun _ => true) ?_))
    walk_at "STN"
    refine ⟨by omega, fun x hxx => ⟨_, rfl, ?_⟩, ?_⟩
    · walk_at "STN"
      exact hm x hxx
    · have e : (ms.all fun _ => true) = true := List.all_eq_true.mpr fun _ _ => rfl
      refine ⟨_, rfl, fun a => ?_, fun a => ?_⟩
      · rw [e] at a; cases a
      · exact ws_next ⟨rfl, rfl, by omega⟩
  · have b := of_decide_eq_true b
    refine ⟨fun _ => ?_, fun z => (nomatch z)⟩
    exact ws_raise ⟨rfl, rfl, by omega⟩
theorem init_runW {c : D} {p : Int} {ms : List D} (S : Store) (hc : finD 5 c = true) (hw : wordB c = true) (hp : 0 < p ∧ p ≤ 6) (hl : ms.length ≤ 1000) (hm : ∀ x ∈ ms, ∀ S, F_is_move [x, .int p] S = .ok (.bl true) S) :
    Rs (b_Procedure___init__ [.val (.mut S.length), .val c, .val (.int p), .val (.tup ms), .un]) (S ++ [.ins "Procedure" []]) (fun fl _ S' => fl = .nx ∧ ms.length ≤ 12 ∧ S' = S ++ [.ins "Procedure" [("own_name", c), ("own_points", .int p), ("own_moves", .tup ms)]])
      (fun c0 fs S' => c0 = IP ∧ fs = [] ∧ 12 < ms.length ∧ S' = S ++ [.ins "Procedure" []]) := by
  unfold b_Procedure___init__
  have at_ : ∀ fs : List (Str × D), (S ++ [Cell.ins "Procedure" fs])[S.length]? = some (.ins "Procedure" fs) := fun fs => by rw [List.getElem?_append_right (Nat.le_refl _), Nat.sub_self]; rfl
  have hq : finD 5 (.int p) = true := fin_i (by omega) (by omega)
  have ho : okP (.int p) = true := by
    show (decide (0 < p) && decide (p ≤ 6)) = true
    rw [decide_eq_true hp.1, decide_eq_true hp.2]; rfl
  refine rs_seq (rs_ws (ws_chk1 rfl hc hq) (fun fl ρ ⟨e1, e2, e3⟩ => ⟨fun _ => ?_, fun z => absurd e1 z⟩) fun c0 fs ⟨e1, e2, e3⟩ => by rw [hw, ho] at e3; cases e3)
  subst e2
  refine rs_seq (rs_ws (ws_chk2W rfl hl fun x hx => wp_at (hm x hx)) (fun fl ρ ⟨e1, e2, e4⟩ => ⟨fun _ => ?_, fun z => absurd e1 z⟩) fun c0 fs ⟨e1, e2, e4⟩ => ⟨e1, e2, e4, rfl⟩)
  subst e2
  refine rs_seq (rs_setF (d := c) (n := S.length) (w_var (by rfl) rfl) (w_var (by rfl) rfl) (at_ _) (by decide) (by decide) ⟨fun _ => ?_, fun z => absurd rfl z⟩)
  rw [set_last]
  refine rs_seq (rs_setF (d := .int p) (n := S.length) (w_var (by rfl) rfl) (w_var (by rfl) rfl) (at_ _) (by decide) (by show (1 : Nat) < 1000; decide) ⟨fun _ => ?_, fun z => absurd rfl z⟩)
  rw [set_last]
  refine rs_setF (d := .tup ms) (n := S.length) (w_var (by rfl) rfl) (w_var (by rfl) rfl) (at_ _) (by decide) (by show (2 : Nat) < 1000; decide) ⟨rfl, e4, ?_⟩
  rw [set_last]
  rfl
theorem w_mkW {c : D} {p : Int} {ms : List D} {P : D → Prop} (hI : ∀ S, I S → S.all plC = true) (hc : finD 5 c = true) (hw : wordB c = true) (hp : 0 < p ∧ p ≤ 6) (hl : ms.length ≤ 1000) (hm : ∀ x ∈ ms, ∀ S, F_is_move [x, .int p] S = .ok (.bl true) S) (hpl : plDs ms = true)
    (ok : ms.length ≤ 12 → P (procD c (.int p) ms)) (hx : 12 < ms.length → X IP []) : Wp I (gMake "Procedure" (starF 3 F_Procedure___init__) (c :: .int p :: ms)) P X := by
  refine w_make hI fun S i => ?_
  have h := init_runW S hc hw hp hl hm
  have e : starF 3 F_Procedure___init__ (.mut S.length :: c :: .int p :: ms) (S ++ [.ins "Procedure" []]) = F_Procedure___init__ [.mut S.length, c, .int p, .tup ms] (S ++ [.ins "Procedure" []]) := by
    unfold starF
    rw [if_pos ⟨by simp only [List.length_cons]; omega, by simp only [List.length_cons]; omega⟩]
    rfl
  rw [e]
  unfold Rs at h
  have e2 : F_Procedure___init__ [.mut S.length, c, .int p, .tup ms] (S ++ [.ins "Procedure" []]) = (match b_Procedure___init__ [.val (.mut S.length), .val c, .val (.int p), .val (.tup ms), .un] (S ++ [.ins "Procedure" []]) with
    | .go (.rt d) _ S' => .ok d S'
    | .go .nx _ S' => .ok .non S'
    | .exc c f _ S' => .exc c f S'
    | _ => .bad) := rfl
  rw [e2]
  cases r : b_Procedure___init__ [.val (.mut S.length), .val c, .val (.int p), .val (.tup ms), .un] (S ++ [.ins "Procedure" []]) with
  | go fl ρ S' =>
    rw [r] at h
    obtain ⟨rfl, hd, rfl⟩ := h
    refine ⟨rfl, _, rfl, ?_, ok hd⟩
    show plFs [("own_name", c), ("own_points", .int p), ("own_moves", .tup ms)] = true
    unfold plFs plFs plFs plFs
    rw [fin_pl hc, show plD (.tup ms) = true from hpl]
    rfl
  | exc c0 fs ρ S' =>
    rw [r] at h
    obtain ⟨rfl, rfl, hd, rfl⟩ := h
    exact ⟨rfl, rfl, hx hd⟩
  | bad => rw [r] at h; exact h
theorem w_ofW {c : D} {p : Int} {ms : List D} {P : D → Prop} (hI : ∀ S, I S → S.all plC = true) (hc : finD 5 c = true) (hw : wordB c = true) (hp : 0 < p ∧ p ≤ 6) (hl : ms.length ≤ 1000) (hm : ∀ x ∈ ms, ∀ S, F_is_move [x, .int p] S = .ok (.bl true) S) (hpl : plDs ms = true)
    (ok : ms.length ≤ 12 → P (procD c (.int p) ms)) (hx : 12 < ms.length → X IP []) : Wp I (cF 4 F_Procedure_of [.cls "Procedure", c, .int p, .tup ms]) P X := by
  refine w_cF rfl ?_
  refine w_def rfl ?_
  unfold b_Procedure_of
  walk_at "STN"
  refine wg_isTuple ⟨_, rfl⟩ ?_
  walk_at "STN"
  refine ⟨fun a => (nomatch a), fun _ => ?_⟩
  walk_at "STN"
  refine w_mkV (by rfl) ?_
  walk_at "STN"
  refine w_star ?_
  walk_at "STN"
  rw [List.append_nil]
  exact w_mkW hI hc hw hp hl hm hpl ok hx
theorem plS_ok : ∀ S, plS S → S.all plC = true := fun _ h => h
theorem fp_ : finD 5 (.str "p") = true ∧ wordB (.str "p") = true := by decide +kernel
theorem met_of {c q : D} {ms : List D} {P : D → Prop} {X' : XP} (hc : finD 5 c = true) (hq : finD 5 q = true) (hm : finD 5 (.tup ms) = true) (hd : dueB c q (.tup ms) = true) (h : P (procD c q ms)) : Wp plS (cF 4 F_Procedure_of [.cls "Procedure", c, q, .tup ms]) P (fun c fs => c = IP ∧ fs = [] ∧ P .non) :=
  w_of plS_ok hc hq hm (fun ms' e _ => by cases e; exact h) fun hx => by rw [hd] at hx; cases hx
theorem met_no {c q m : D} {P : D → Prop} (hc : finD 5 c = true) (hq : finD 5 q = true) (hm : finD 5 m = true) (hd : dueB c q m = false) (h : P .non) : Wp plS (cF 4 F_Procedure_of [.cls "Procedure", c, q, m]) P (fun c fs => c = IP ∧ fs = [] ∧ P .non) :=
  w_of plS_ok hc hq hm (fun ms' e hx => by rw [hd] at hx; cases hx) fun _ => ⟨rfl, rfl, h⟩
theorem mk_ok {c q : D} {ms : List D} {P : D → Prop} (hc : finD 5 c = true) (hq : finD 5 q = true) (hm : finD 5 (.tup ms) = true) (hd : dueB c q (.tup ms) = true) (h : P (procD c q ms)) : Wp plS (gMake "Procedure" (starF 3 F_Procedure___init__) (c :: q :: ms)) P (fun c fs => c = IP ∧ fs = [] ∧ P .non) :=
  w_mk plS_ok hc hq hm (fun _ => h) fun hx => by rw [hd] at hx; cases hx
theorem mk_no {c q : D} {ms : List D} {P : D → Prop} (hc : finD 5 c = true) (hq : finD 5 q = true) (hm : finD 5 (.tup ms) = true) (hd : dueB c q (.tup ms) = false) (h : P .non) : Wp plS (gMake "Procedure" (starF 3 F_Procedure___init__) (c :: q :: ms)) P (fun c fs => c = IP ∧ fs = [] ∧ P .non) :=
  w_mk plS_ok hc hq hm (fun hx => by rw [hd] at hx; cases hx) fun _ => ⟨rfl, rfl, h⟩
theorem wg_isN0 {P : D → Prop} (h : P (.bl true)) : Wp I (gIsN .non .non) P X := Wp.pure h
def BadM (d : D) : Prop := finD 4 d = true ∧ dueB (.str "p") (.int 1) (.tup [d]) = false
theorem bad_ok (d : D) (hd : d ∈ [D.tup [.str "go", .int 0, .int 0, .tup [.tup [.int 0, .int 0], .tup [.int 0, .int 0]]], .tup [.str "go", .int 0, .int 0, .tup [.tup [.int 1, .int 0], .tup [.int 0, .int 1]]], .tup [.str "leave", .int 0, .tup []], .tup [.str "call", .int 0, .int 0, .str "p", .tup [.int 0], .int 0], .tup [.str "post", .int 0, .int 1, .str "p", .tup [.int 0]], .tup [.str "fail", .int 0, .tup [.int 0]]]) : BadM d := by
  simp only [List.mem_cons, List.not_mem_nil, or_false] at hd
  rcases hd with h | h | h | h | h | h <;> subst h <;> exact ⟨by decide +kernel, by decide +kernel⟩
theorem main : ∀ ns : List Int, ns.length ≤ 63 → ∃ S', F_law [.scr ns] [] = .ok (.bl true) S' := by
  intro ns hn
  have h : Wp plS (F_law [.scr ns]) (fun d => d = .bl true) X0 := by
    refine w_def rfl ?_
    unfold b_law
    walk_at "STN"
    have hb : ∀ m : Nat, (if (if (m : Int) < 8 then (m : Int) else 8) > 1 then if (m : Int) < 8 then (m : Int) else 8 else 1) ≤ 8 ∧ (1 : Int) ≤ (if (if (m : Int) < 8 then (m : Int) else 8) > 1 then if (m : Int) < 8 then (m : Int) else 8 else 1) := by
      intro m
      split <;> split <;> omega
    have hb := hb ns.length
    revert hb
    generalize (if (if (ns.length : Int) < 8 then (ns.length : Int) else 8) > 1 then if (ns.length : Int) < 8 then (ns.length : Int) else 8 else 1) = top
    intro hb
    with_reducible refine wg_rng1 ⟨by omega, by omega⟩ ?_
    refine ws_forL (J := fun ds ρ => (∀ d ∈ ds, ∃ k : Nat, d = .int k) ∧ ∃ s1, ρ = [.val (.scr ns), s1, .un, .un, .un, .un]) ?_ ?_ _ _ ⟨?_, _, rfl⟩
    · rintro d ds ρ ⟨hds, s1, rfl⟩
      obtain ⟨k, rfl⟩ := hds d List.mem_cons_self
      refine ⟨_, rfl, ?_⟩
      refine ws_if (w_notB (w_b ?_))
      refine (w_call_new (P := fun r => r = .bl true) (fun S s => ?_) fun n => w_right).imp (fun r hr => ?_) fun _ _ x => x
      · obtain ⟨S', e, hd⟩ := run_numbers ns k S s
        exact ⟨S', e, hd⟩
      · subst hr
        refine ⟨_, rfl, fun h => (nomatch h), fun _ => ?_⟩
        walk_at "STN"
        exact ⟨fun d hd => hds d (List.mem_cons_of_mem _ hd), _, rfl⟩
    · rintro ρ ⟨_, s1, rfl⟩
      refine ⟨fun _ => ?_, fun z => absurd rfl z⟩
      refine ws_seq (ws_asg ((wp_at (wide_run _ _ _ _ _ _)).imp (fun d hd => ?_) fun _ _ x => x))
      subst hd
      refine ⟨_, rfl, fun _ => ?_, fun z => absurd rfl z⟩
      have wl : wideL.length = 12 := List.length_replicate
      have wm : ∀ x ∈ wideL, ∀ S, F_is_move [x, .int 6] S = .ok (.bl true) S := fun x hx S => by rw [List.eq_of_mem_replicate hx]; exact wide_move S
      have f6 : finD 5 (.int 6) = true := fin_i (by decide) (by decide)
      walk_at "STN"
      refine Wp.imp (P := fun r => r = procD (.str "p") (.int 6) wideL) (X := X0) (w_metN ?_) (fun r hr => ?_) fun _ _ x => x
      · walk_at "STN"
        exact w_ofW plS_ok fp_.1 fp_.2 (by decide) (by omega) wm wide_pl.1 (fun _ => rfl) fun h => by rw [wl] at h; exact absurd h (by decide)
      subst hr
      walk_at "STN"
      refine wg_notNp ?_
      walk_at "STN"
      refine ⟨by simp, ⟨fun _ => ?_, fun z => absurd rfl z⟩⟩
      refine ws_seq (ws_app (xs := [.bl true]) (by rfl) (by simp) ?_)
      walk_at "STN"
      refine Wp.imp (P := fun r => r = .non) (X := X0) (w_metN ?_) (fun r hr => ?_) fun _ _ x => x
      · walk_at "STN"
        have c1 : cutD wideL none (some 1) = wideL.take 1 := cutD_take wideL rfl
        rw [c1]
        refine wg_addT (by rw [wl]; simp only [List.length_take]; omega) ?_
        walk_at "STN"
        have hx : ∀ x ∈ wideL ++ wideL.take 1, x ∈ wideL := fun x hx => by
          rcases List.mem_append.mp hx with h | h
          · exact h
          · exact List.mem_of_mem_take h
        refine w_ofW plS_ok fp_.1 fp_.2 (by decide) (by simp only [List.length_append, List.length_take, wl]; omega) (fun x h => wm x (hx x h)) (by decide +kernel) (fun h => ?_) fun _ => ⟨rfl, rfl, rfl⟩
        simp only [List.length_append, List.length_take, wl] at h
        omega
      subst hr
      walk_at "STN"
      refine wg_isN0 ?_
      refine ⟨fun _ => ?_, fun z => absurd rfl z⟩
      refine ws_seq (ws_app (xs := [.bl true, .bl true]) (by rfl) (by simp) ?_)
      walk_at "STN"
      refine Wp.imp (P := fun r => r = .non) (X := X0) (w_metN ?_) (fun r hr => ?_) fun _ _ x => x
      · walk_at "STN"
        exact met_no fp_.1 (by decide +kernel) (by decide +kernel) (by decide +kernel) rfl
      subst hr
      walk_at "STN"
      refine wg_isN0 ?_
      refine ⟨fun _ => ?_, fun z => absurd rfl z⟩
      refine ws_seq (ws_app (xs := [.bl true, .bl true, .bl true]) (by rfl) (by simp) ?_)
      walk_at "STN"
      refine Wp.imp (P := fun r => r = procD (.str "p") (.int 1) []) (X := X0) (w_metN ?_) (fun r hr => ?_) fun _ _ x => x
      · walk_at "STN"
        exact mk_ok fp_.1 (by decide +kernel) (by decide +kernel) (by decide +kernel) rfl
      subst hr
      walk_at "STN"
      refine Wp.imp (P := fun r => r = procD (.str "p") (.int 1) []) (X := X0) (w_of plS_ok fp_.1 (by decide +kernel) (by decide +kernel) (fun ms' e _ => by cases e; rfl) fun h => absurd h (by decide +kernel)) (fun r hr => ?_) fun _ _ x => x
      subst hr
      refine wg_eqI (beq_self_eq_true (α := Str) "Procedure") ((w_eqP (eqN_refl 5 fp_.1 50 (by decide)) (eqN_refl 5 (fin_i (by decide) (by decide)) 50 (by decide)) (eqN_refl 5 (d := .tup []) (by decide +kernel) 50 (by decide))).imp (fun r hr => ⟨_, hr, ?_⟩) fun _ _ x => x)
      refine ⟨fun _ => ?_, fun z => absurd rfl z⟩
      refine ws_seq (ws_app (xs := [.bl true, .bl true, .bl true, .bl true]) (by rfl) (by simp) ?_)
      walk_at "STN"
      refine Wp.imp (P := fun r => r = procD (.str "p") (.int 1) [.tup [.str "leave", .int 0, .tup [.int 4]]]) (X := X0) (w_metN ?_) (fun r hr => ?_) fun _ _ x => x
      · walk_at "STN"
        exact mk_ok fp_.1 (by decide +kernel) (by decide +kernel) (by decide +kernel) rfl
      subst hr
      walk_at "STN"
      refine wg_notNp ?_
      refine ⟨fun _ => ?_, fun z => absurd rfl z⟩
      refine ws_seq (ws_app (xs := [.bl true, .bl true, .bl true, .bl true, .bl true]) (by rfl) (by simp) ?_)
      walk_at "STN"
      refine Wp.imp (P := fun r => r = .non) (X := X0) (w_metN ?_) (fun r hr => ?_) fun _ _ x => x
      · walk_at "STN"
        exact mk_no fp_.1 (by decide +kernel) (by decide +kernel) (by decide +kernel) rfl
      subst hr
      walk_at "STN"
      refine wg_isN0 ?_
      refine ⟨fun _ => ?_, fun z => absurd rfl z⟩
      walk_at "STN"
      refine wg_addL (by simp) ?_
      walk_at "STN"
      refine ws_forL (J := fun ds ρ => ∃ (k : Nat) (s1 s4 s5 : Sl), ρ = [.val (.scr ns), s1, .val (.tup wideL), .own (List.replicate k (.bl true)), s4, s5] ∧ k + ds.length = 12 ∧ ∀ d ∈ ds, BadM d) ?_ ?_ _ _ ⟨6, _, _, _, rfl, rfl, bad_ok⟩
      · rintro d ds ρ ⟨k, s1, s4, s5, rfl, hk, hb⟩
        obtain ⟨f4, bd⟩ := hb d List.mem_cons_self
        refine ⟨_, rfl, ?_⟩
        refine ws_app (xs := List.replicate k (.bl true)) (by rfl) (by rw [List.length_replicate]; omega) ?_
        walk_at "STN"
        refine Wp.imp (P := fun r => r = .non) (X := X0) (w_metN ?_) (fun r hr => ?_) fun _ _ x => x
        · walk_at "STN"
          exact met_no fp_.1 (by decide +kernel) (fin_tup.mpr ⟨by show 1 ≤ 40; decide, fun x hx => by rw [List.mem_singleton.mp hx]; exact f4⟩) bd rfl
        subst hr
        walk_at "STN"
        refine wg_isN0 ?_
        refine ⟨k + 1, s1, s4, .val d, ?_, by rw [List.length_cons] at hk; omega, fun x hx => hb x (List.mem_cons_of_mem _ hx)⟩
        rw [List.replicate_succ']
        rfl
      · rintro ρ ⟨k, s1, s4, s5, rfl, hk, _⟩
        have hk : k = 12 := hk
        subst hk
        refine ⟨fun _ => ?_, fun z => absurd rfl z⟩
        refine ws_seq (ws_app (xs := List.replicate 12 (.bl true)) (by rfl) (by rw [List.length_replicate]; decide) ?_)
        walk_at "STN"
        refine Wp.imp (P := fun r => ∃ ms, r = procD (.str "p") (.int 2) ms) (X := X0) (w_metN ?_) (fun r ⟨ms, hr⟩ => ?_) fun _ _ x => x
        · walk_at "STN"
          exact mk_ok fp_.1 (by decide +kernel) (by decide +kernel) (by decide +kernel) ⟨_, rfl⟩
        subst hr
        walk_at "STN"
        refine wg_notNp ?_
        refine ⟨fun _ => ?_, fun z => absurd rfl z⟩
        walk_at "STN"
        refine wg_mulAL ⟨by decide, by decide, by simp⟩ ?_
        refine wg_eqIN (b := true) rfl (by decide +kernel) ?_
        rfl
    · intro d hd
      unfold rngD at hd
      obtain ⟨k, _, rfl⟩ := List.mem_map.mp hd
      exact ⟨k, by rw [Int.zero_add]⟩
  obtain ⟨a, S', e, rfl, _⟩ := h.run (S := []) rfl
  exact ⟨S', e⟩
end
end K10
namespace K10
open PySem PySem.Spec PyProof.Rows L2 DN
abbrev s_law_met : Stmt := top 36
theorem sc_law_met : FnScope ["call"] ["call"] (defScope s_law_met) := ⟨rfl, rfl, rfl, by decide +kernel, rfl, by decide +kernel, by decide +kernel⟩
theorem met_mk {Z : Cx} {odm anm : Option Addr} {slm : Array (Option Value)} {ocm kVm dcm pmm cdm ctm : Value} {fm CS : Addr} (hm : Z.mg "_law_met" = some (.ref fm)) (lm : Z.K.lookup fm = some ⟨ocm, odm, .func (PySem.W.fnOf "_law_met" "_law_met" (defArgs s_law_met) (defBody s_law_met) (defScope s_law_met) .none kVm dcm pmm anm cdm ctm), slm⟩)
    (cm : PySem.W.codeIn Z.K cdm "_law_met" = true) (km : PySem.W.keepIn Z.K (.ref fm) = true) (hme : Z.mg "InvalidProgram" = some (.ref CS)) (one : PySem.W.exmOne Z.K (.ref CS) (.ref CS) = some true) : MetN Z "_law_met" CS := by
  have G := fun_mk (st := s_law_met) lm cm km
  refine ⟨"call", fm, defArgs s_law_met, defBody s_law_met, defScope s_law_met, .none, kVm, dcm, pmm, cdm, ctm, ocm, anm, odm, slm, ["call"], hm, km, lm, cm, G.binds (ps := ["call"]) fun _ _ _ _ _ _ us hl => match us, hl with | [_], _ => rfl, sc_law_met, rfl, .inl rfl, by decide, by decide, fun qq => ?_⟩
  exact non_gives (sg := defScope s_law_met) rfl hme (by decide) (fun _ => rfl) one
theorem all_mk {l : PySem.W.OpenLaw} {q : Program} {w : World} {K : PySem.W.Frag} {h : Heap} {mg : Str → Option Value} {fa : Addr} (X : K.In h) (G : h.Ns mainGlobals mg) (hfa : mg "law" = some (.ref fa)) (own : ∀ (nm : Str) (f : Addr), ((recsOf q).any fun e => e.name == nm) = true → mg nm = some (.ref f) → LamX.OwnTab K f h)
    {od0 an0 : Option Addr} {sl0 : Array (Option Value)} {oc0 kV0 dc0 pm0 cd0 ct0 : Value} {f0 : Addr} {od1 an1 : Option Addr} {sl1 : Array (Option Value)} {oc1 kV1 dc1 pm1 cd1 ct1 : Value} {f1 : Addr} {od2 an2 : Option Addr} {sl2 : Array (Option Value)} {oc2 kV2 dc2 pm2 cd2 ct2 : Value} {f2 : Addr} {od3 an3 : Option Addr} {sl3 : Array (Option Value)} {oc3 kV3 dc3 pm3 cd3 ct3 : Value} {f3 : Addr} {od4 an4 : Option Addr} {sl4 : Array (Option Value)} {oc4 kV4 dc4 pm4 cd4 ct4 : Value} {f4 : Addr} {od5 an5 : Option Addr} {sl5 : Array (Option Value)} {oc5 kV5 dc5 pm5 cd5 ct5 : Value} {f5 : Addr} {od6 an6 : Option Addr} {sl6 : Array (Option Value)} {oc6 kV6 dc6 pm6 cd6 ct6 : Value} {f6 : Addr} {od7 an7 : Option Addr} {sl7 : Array (Option Value)} {oc7 kV7 dc7 pm7 cd7 ct7 : Value} {f7 : Addr} {od8 an8 : Option Addr} {sl8 : Array (Option Value)} {oc8 kV8 dc8 pm8 cd8 ct8 : Value} {f8 : Addr} {od9 an9 : Option Addr} {sl9 : Array (Option Value)} {oc9 kV9 dc9 pm9 cd9 ct9 : Value} {f9 : Addr} {od10 an10 : Option Addr} {sl10 : Array (Option Value)} {oc10 kV10 dc10 pm10 cd10 ct10 : Value} {f10 : Addr} {od11 an11 : Option Addr} {sl11 : Array (Option Value)} {oc11 kV11 dc11 pm11 cd11 ct11 : Value} {f11 : Addr} {od12 an12 : Option Addr} {sl12 : Array (Option Value)} {oc12 kV12 dc12 pm12 cd12 ct12 : Value} {f12 : Addr} {od13 an13 : Option Addr} {sl13 : Array (Option Value)} {oc13 kV13 dc13 pm13 cd13 ct13 : Value} {f13 : Addr} {od14 an14 : Option Addr} {sl14 : Array (Option Value)} {oc14 kV14 dc14 pm14 cd14 ct14 : Value} {f14 : Addr} {od15 an15 : Option Addr} {sl15 : Array (Option Value)} {oc15 kV15 dc15 pm15 cd15 ct15 : Value} {f15 : Addr} {od16 an16 : Option Addr} {sl16 : Array (Option Value)} {oc16 kV16 dc16 pm16 cd16 ct16 : Value} {f16 : Addr} {od17 an17 : Option Addr} {sl17 : Array (Option Value)} {oc17 kV17 dc17 pm17 cd17 ct17 : Value} {f17 : Addr} {od18 an18 : Option Addr} {sl18 : Array (Option Value)} {oc18 kV18 dc18 pm18 cd18 ct18 : Value} {f18 : Addr} {od19 an19 : Option Addr} {sl19 : Array (Option Value)} {oc19 kV19 dc19 pm19 cd19 ct19 : Value} {f19 : Addr} {od20 an20 : Option Addr} {sl20 : Array (Option Value)} {oc20 kV20 dc20 pm20 cd20 ct20 : Value} {f20 : Addr} {od21 an21 : Option Addr} {sl21 : Array (Option Value)} {oc21 kV21 dc21 pm21 cd21 ct21 : Value} {f21 : Addr} {od22 an22 : Option Addr} {sl22 : Array (Option Value)} {oc22 kV22 dc22 pm22 cd22 ct22 : Value} {f22 : Addr} {od23 an23 : Option Addr} {sl23 : Array (Option Value)} {oc23 kV23 dc23 pm23 cd23 ct23 : Value} {f23 : Addr} {e_Procedure : Addr} {od24 an24 : Option Addr} {sl24 : Array (Option Value)} {oc24 kV24 dc24 pm24 cd24 ct24 : Value} {f24 : Addr} {od25 an25 : Option Addr} {sl25 : Array (Option Value)} {oc25 kV25 dc25 pm25 cd25 ct25 : Value} {f25 : Addr} {p25 : Addr} {rs25 : List Value} {od26 an26 : Option Addr} {sl26 : Array (Option Value)} {oc26 kV26 dc26 pm26 cd26 ct26 : Value} {f26 : Addr} {p26 : Addr} {rs26 : List Value} {od27 an27 : Option Addr} {sl27 : Array (Option Value)} {oc27 kV27 dc27 pm27 cd27 ct27 : Value} {f27 : Addr} {p27 : Addr} {rs27 : List Value} {od28 an28 : Option Addr} {sl28 : Array (Option Value)} {oc28 kV28 dc28 pm28 cd28 ct28 : Value} {f28 : Addr} {od29 an29 : Option Addr} {sl29 : Array (Option Value)} {oc29 kV29 dc29 pm29 cd29 ct29 : Value} {f29 : Addr} {od30 an30 : Option Addr} {sl30 : Array (Option Value)} {oc30 kV30 dc30 pm30 cd30 ct30 : Value} {f30 : Addr} {p30 : Addr} {rs30 : List Value} {od31 an31 : Option Addr} {sl31 : Array (Option Value)} {oc31 kV31 dc31 pm31 cd31 ct31 : Value} {f31 : Addr} {od32 an32 : Option Addr} {sl32 : Array (Option Value)} {oc32 kV32 dc32 pm32 cd32 ct32 : Value} {f32 : Addr} {od33 an33 : Option Addr} {sl33 : Array (Option Value)} {oc33 kV33 dc33 pm33 ct33 : Value} {f33 : Addr} {p33 P33 : Addr} {ud33 : Option Addr} {vs33 : Array Value} {us33 : Array (Option Value)} {od34 an34 : Option Addr} {sl34 : Array (Option Value)} {oc34 kV34 dc34 pm34 ct34 : Value} {f34 : Addr} {p34 P34 : Addr} {ud34 : Option Addr} {vs34 : Array Value} {us34 : Array (Option Value)} {tk_LETTERS : Tok} {tk_MAX_LETTERS : Tok} {tk_MAX_MODES : Tok} {tk_MAX_MOVES : Tok} {tk_MAX_POINTS : Tok} {e_InvalidProgram : Addr} {odm anm : Option Addr} {slm : Array (Option Value)} {ocm kVm dcm pmm cdm ctm : Value} {fm : Addr}
    (a0 : PySem.W.nsIn K mainGlobals "is_integer" = some (some (.ref f0)))
    (l0 : K.lookup f0 = some ⟨oc0, od0, .func (PySem.W.fnOf "is_integer" "is_integer" (defArgs s_is_integer) (defBody s_is_integer) (defScope s_is_integer) .none kV0 dc0 pm0 an0 cd0 ct0), sl0⟩)
    (c0 : PySem.W.codeIn K cd0 "is_integer" = true)
    (k0 : PySem.W.keepIn K (.ref f0) = true)
    (a1 : PySem.W.nsIn K mainGlobals "is_below" = some (some (.ref f1)))
    (l1 : K.lookup f1 = some ⟨oc1, od1, .func (PySem.W.fnOf "is_below" "is_below" (defArgs s_is_below) (defBody s_is_below) (defScope s_is_below) .none kV1 dc1 pm1 an1 cd1 ct1), sl1⟩)
    (c1 : PySem.W.codeIn K cd1 "is_below" = true)
    (k1 : PySem.W.keepIn K (.ref f1) = true)
    (a2 : PySem.W.nsIn K mainGlobals "is_ascending" = some (some (.ref f2)))
    (l2 : K.lookup f2 = some ⟨oc2, od2, .func (PySem.W.fnOf "is_ascending" "is_ascending" (defArgs s_is_ascending) (defBody s_is_ascending) (defScope s_is_ascending) .none kV2 dc2 pm2 an2 cd2 ct2), sl2⟩)
    (c2 : PySem.W.codeIn K cd2 "is_ascending" = true)
    (k2 : PySem.W.keepIn K (.ref f2) = true)
    (a3 : PySem.W.nsIn K mainGlobals "is_pair" = some (some (.ref f3)))
    (l3 : K.lookup f3 = some ⟨oc3, od3, .func (PySem.W.fnOf "is_pair" "is_pair" (defArgs s_is_pair) (defBody s_is_pair) (defScope s_is_pair) .none kV3 dc3 pm3 an3 cd3 ct3), sl3⟩)
    (c3 : PySem.W.codeIn K cd3 "is_pair" = true)
    (k3 : PySem.W.keepIn K (.ref f3) = true)
    (a4 : PySem.W.nsIn K mainGlobals "is_name" = some (some (.ref f4)))
    (l4 : K.lookup f4 = some ⟨oc4, od4, .func (PySem.W.fnOf "is_name" "is_name" (defArgs s_is_name) (defBody s_is_name) (defScope s_is_name) .none kV4 dc4 pm4 an4 cd4 ct4), sl4⟩)
    (c4 : PySem.W.codeIn K cd4 "is_name" = true)
    (k4 : PySem.W.keepIn K (.ref f4) = true)
    (a5 : PySem.W.nsIn K mainGlobals "is_mode_set" = some (some (.ref f5)))
    (l5 : K.lookup f5 = some ⟨oc5, od5, .func (PySem.W.fnOf "is_mode_set" "is_mode_set" (defArgs s_is_mode_set) (defBody s_is_mode_set) (defScope s_is_mode_set) .none kV5 dc5 pm5 an5 cd5 ct5), sl5⟩)
    (c5 : PySem.W.codeIn K cd5 "is_mode_set" = true)
    (k5 : PySem.W.keepIn K (.ref f5) = true)
    (a6 : PySem.W.nsIn K mainGlobals "are_pairs" = some (some (.ref f6)))
    (l6 : K.lookup f6 = some ⟨oc6, od6, .func (PySem.W.fnOf "are_pairs" "are_pairs" (defArgs s_are_pairs) (defBody s_are_pairs) (defScope s_are_pairs) .none kV6 dc6 pm6 an6 cd6 ct6), sl6⟩)
    (c6 : PySem.W.codeIn K cd6 "are_pairs" = true)
    (k6 : PySem.W.keepIn K (.ref f6) = true)
    (a7 : PySem.W.nsIn K mainGlobals "is_move" = some (some (.ref f7)))
    (l7 : K.lookup f7 = some ⟨oc7, od7, .func (PySem.W.fnOf "is_move" "is_move" (defArgs s_is_move) (defBody s_is_move) (defScope s_is_move) .none kV7 dc7 pm7 an7 cd7 ct7), sl7⟩)
    (c7 : PySem.W.codeIn K cd7 "is_move" = true)
    (k7 : PySem.W.keepIn K (.ref f7) = true)
    (a8 : PySem.W.nsIn K mainGlobals "_law_numbers" = some (some (.ref f8)))
    (l8 : K.lookup f8 = some ⟨oc8, od8, .func (PySem.W.fnOf "_law_numbers" "_law_numbers" (defArgs s_law_numbers) (defBody s_law_numbers) (defScope s_law_numbers) .none kV8 dc8 pm8 an8 cd8 ct8), sl8⟩)
    (c8 : PySem.W.codeIn K cd8 "_law_numbers" = true)
    (k8 : PySem.W.keepIn K (.ref f8) = true)
    (a9 : PySem.W.nsIn K mainGlobals "_law_cast" = some (some (.ref f9)))
    (l9 : K.lookup f9 = some ⟨oc9, od9, .func (PySem.W.fnOf "_law_cast" "_law_cast" (defArgs s_law_cast) (defBody s_law_cast) (defScope s_law_cast) .none kV9 dc9 pm9 an9 cd9 ct9), sl9⟩)
    (c9 : PySem.W.codeIn K cd9 "_law_cast" = true)
    (k9 : PySem.W.keepIn K (.ref f9) = true)
    (a10 : PySem.W.nsIn K mainGlobals "_law_pick" = some (some (.ref f10)))
    (l10 : K.lookup f10 = some ⟨oc10, od10, .func (PySem.W.fnOf "_law_pick" "_law_pick" (defArgs s_law_pick) (defBody s_law_pick) (defScope s_law_pick) .none kV10 dc10 pm10 an10 cd10 ct10), sl10⟩)
    (c10 : PySem.W.codeIn K cd10 "_law_pick" = true)
    (k10 : PySem.W.keepIn K (.ref f10) = true)
    (a11 : PySem.W.nsIn K mainGlobals "_law_shuffle" = some (some (.ref f11)))
    (l11 : K.lookup f11 = some ⟨oc11, od11, .func (PySem.W.fnOf "_law_shuffle" "_law_shuffle" (defArgs s_law_shuffle) (defBody s_law_shuffle) (defScope s_law_shuffle) .none kV11 dc11 pm11 an11 cd11 ct11), sl11⟩)
    (c11 : PySem.W.codeIn K cd11 "_law_shuffle" = true)
    (k11 : PySem.W.keepIn K (.ref f11) = true)
    (a12 : PySem.W.nsIn K mainGlobals "_law_subset" = some (some (.ref f12)))
    (l12 : K.lookup f12 = some ⟨oc12, od12, .func (PySem.W.fnOf "_law_subset" "_law_subset" (defArgs s_law_subset) (defBody s_law_subset) (defScope s_law_subset) .none kV12 dc12 pm12 an12 cd12 ct12), sl12⟩)
    (c12 : PySem.W.codeIn K cd12 "_law_subset" = true)
    (k12 : PySem.W.keepIn K (.ref f12) = true)
    (a13 : PySem.W.nsIn K mainGlobals "_law_is_number" = some (some (.ref f13)))
    (l13 : K.lookup f13 = some ⟨oc13, od13, .func (PySem.W.fnOf "_law_is_number" "_law_is_number" (defArgs s_law_is_number) (defBody s_law_is_number) (defScope s_law_is_number) .none kV13 dc13 pm13 an13 cd13 ct13), sl13⟩)
    (c13 : PySem.W.codeIn K cd13 "_law_is_number" = true)
    (k13 : PySem.W.keepIn K (.ref f13) = true)
    (a14 : PySem.W.nsIn K mainGlobals "_law_is_word" = some (some (.ref f14)))
    (l14 : K.lookup f14 = some ⟨oc14, od14, .func (PySem.W.fnOf "_law_is_word" "_law_is_word" (defArgs s_law_is_word) (defBody s_law_is_word) (defScope s_law_is_word) .none kV14 dc14 pm14 an14 cd14 ct14), sl14⟩)
    (c14 : PySem.W.codeIn K cd14 "_law_is_word" = true)
    (k14 : PySem.W.keepIn K (.ref f14) = true)
    (a15 : PySem.W.nsIn K mainGlobals "_law_is_set" = some (some (.ref f15)))
    (l15 : K.lookup f15 = some ⟨oc15, od15, .func (PySem.W.fnOf "_law_is_set" "_law_is_set" (defArgs s_law_is_set) (defBody s_law_is_set) (defScope s_law_is_set) .none kV15 dc15 pm15 an15 cd15 ct15), sl15⟩)
    (c15 : PySem.W.codeIn K cd15 "_law_is_set" = true)
    (k15 : PySem.W.keepIn K (.ref f15) = true)
    (a16 : PySem.W.nsIn K mainGlobals "_law_is_pairs" = some (some (.ref f16)))
    (l16 : K.lookup f16 = some ⟨oc16, od16, .func (PySem.W.fnOf "_law_is_pairs" "_law_is_pairs" (defArgs s_law_is_pairs) (defBody s_law_is_pairs) (defScope s_law_is_pairs) .none kV16 dc16 pm16 an16 cd16 ct16), sl16⟩)
    (c16 : PySem.W.codeIn K cd16 "_law_is_pairs" = true)
    (k16 : PySem.W.keepIn K (.ref f16) = true)
    (a17 : PySem.W.nsIn K mainGlobals "_law_bent_tuple" = some (some (.ref f17)))
    (l17 : K.lookup f17 = some ⟨oc17, od17, .func (PySem.W.fnOf "_law_bent_tuple" "_law_bent_tuple" (defArgs s_law_bent_tuple) (defBody s_law_bent_tuple) (defScope s_law_bent_tuple) .none kV17 dc17 pm17 an17 cd17 ct17), sl17⟩)
    (c17 : PySem.W.codeIn K cd17 "_law_bent_tuple" = true)
    (k17 : PySem.W.keepIn K (.ref f17) = true)
    (a18 : PySem.W.nsIn K mainGlobals "_law_odd_one" = some (some (.ref f18)))
    (l18 : K.lookup f18 = some ⟨oc18, od18, .func (PySem.W.fnOf "_law_odd_one" "_law_odd_one" (defArgs s_law_odd_one) (defBody s_law_odd_one) (defScope s_law_odd_one) .none kV18 dc18 pm18 an18 cd18 ct18), sl18⟩)
    (c18 : PySem.W.codeIn K cd18 "_law_odd_one" = true)
    (k18 : PySem.W.keepIn K (.ref f18) = true)
    (a19 : PySem.W.nsIn K mainGlobals "_law_bent_move" = some (some (.ref f19)))
    (l19 : K.lookup f19 = some ⟨oc19, od19, .func (PySem.W.fnOf "_law_bent_move" "_law_bent_move" (defArgs s_law_bent_move) (defBody s_law_bent_move) (defScope s_law_bent_move) .none kV19 dc19 pm19 an19 cd19 ct19), sl19⟩)
    (c19 : PySem.W.codeIn K cd19 "_law_bent_move" = true)
    (k19 : PySem.W.keepIn K (.ref f19) = true)
    (a20 : PySem.W.nsIn K mainGlobals "_law_a_move" = some (some (.ref f20)))
    (l20 : K.lookup f20 = some ⟨oc20, od20, .func (PySem.W.fnOf "_law_a_move" "_law_a_move" (defArgs s_law_a_move) (defBody s_law_a_move) (defScope s_law_a_move) .none kV20 dc20 pm20 an20 cd20 ct20), sl20⟩)
    (c20 : PySem.W.codeIn K cd20 "_law_a_move" = true)
    (k20 : PySem.W.keepIn K (.ref f20) = true)
    (a21 : PySem.W.nsIn K mainGlobals "_law_any_plain" = some (some (.ref f21)))
    (l21 : K.lookup f21 = some ⟨oc21, od21, .func (PySem.W.fnOf "_law_any_plain" "_law_any_plain" (defArgs s_law_any_plain) (defBody s_law_any_plain) (defScope s_law_any_plain) .none kV21 dc21 pm21 an21 cd21 ct21), sl21⟩)
    (c21 : PySem.W.codeIn K cd21 "_law_any_plain" = true)
    (k21 : PySem.W.keepIn K (.ref f21) = true)
    (a22 : PySem.W.nsIn K mainGlobals "_law_is_step" = some (some (.ref f22)))
    (l22 : K.lookup f22 = some ⟨oc22, od22, .func (PySem.W.fnOf "_law_is_step" "_law_is_step" (defArgs s_law_is_step) (defBody s_law_is_step) (defScope s_law_is_step) .none kV22 dc22 pm22 an22 cd22 ct22), sl22⟩)
    (c22 : PySem.W.codeIn K cd22 "_law_is_step" = true)
    (k22 : PySem.W.keepIn K (.ref f22) = true)
    (a23 : PySem.W.nsIn K mainGlobals "_law_is_due" = some (some (.ref f23)))
    (l23 : K.lookup f23 = some ⟨oc23, od23, .func (PySem.W.fnOf "_law_is_due" "_law_is_due" (defArgs s_law_is_due) (defBody s_law_is_due) (defScope s_law_is_due) .none kV23 dc23 pm23 an23 cd23 ct23), sl23⟩)
    (c23 : PySem.W.codeIn K cd23 "_law_is_due" = true)
    (k23 : PySem.W.keepIn K (.ref f23) = true)
    (q1_Procedure : PySem.W.nsIn K mainGlobals "Procedure" = some (some (.ref e_Procedure)))
    (q2_Procedure : insB K e_Procedure = true)
    (q3_Procedure : fldIB K e_Procedure ["own_name", "own_points", "own_moves"] = true)
    (q4_Procedure : insTB K (.ref e_Procedure) tabI_Procedure = true)
    (q5_Procedure : notFB K e_Procedure = true)
    (q6_Procedure : PySem.W.findIn K (.ref e_Procedure) "__ne__" = some (some (.builtin "object.__ne__")))
    (q7_Procedure : PySem.W.readsIn K e_Procedure (.type "type") = true)
    (q8_Procedure : PySem.W.specialIn K (.ref e_Procedure) "__getattribute__" = some (some (.builtin "type.__getattribute__")))
    (a24 : PySem.W.findIn K (.ref e_Procedure) "__eq__" = some (some (.ref f24)))
    (gd24 : PySem.W.isFn K (.ref f24) = true)
    (l24 : K.lookup f24 = some ⟨oc24, od24, .func (PySem.W.fnOf "__eq__" "Procedure.__eq__" (defArgs s_Procedure___eq__) (defBody s_Procedure___eq__) (defScope s_Procedure___eq__) .none kV24 dc24 pm24 an24 cd24 ct24), sl24⟩)
    (c24 : PySem.W.codeIn K cd24 "Procedure.__eq__" = true)
    (k24 : PySem.W.keepIn K (.ref f24) = true)
    (a25 : PySem.W.findIn K (.ref e_Procedure) "moves" = some (some (.ref p25)))
    (ga25 : PySem.W.specialIn K (.ref p25) "__get__" = some (some (.builtin "property.__get__")))
    (gb25 : PySem.W.takesIn K (.ref p25) = some true)
    (gc25 : PySem.W.recIn K p25 "property" = some (.ref f25 :: rs25))
    (l25 : K.lookup f25 = some ⟨oc25, od25, .func (PySem.W.fnOf "moves" "Procedure.moves" (defArgs s_Procedure_moves) (defBody s_Procedure_moves) (defScope s_Procedure_moves) .none kV25 dc25 pm25 an25 cd25 ct25), sl25⟩)
    (c25 : PySem.W.codeIn K cd25 "Procedure.moves" = true)
    (k25 : PySem.W.keepIn K (.ref f25) = true)
    (a26 : PySem.W.findIn K (.ref e_Procedure) "points" = some (some (.ref p26)))
    (ga26 : PySem.W.specialIn K (.ref p26) "__get__" = some (some (.builtin "property.__get__")))
    (gb26 : PySem.W.takesIn K (.ref p26) = some true)
    (gc26 : PySem.W.recIn K p26 "property" = some (.ref f26 :: rs26))
    (l26 : K.lookup f26 = some ⟨oc26, od26, .func (PySem.W.fnOf "points" "Procedure.points" (defArgs s_Procedure_points) (defBody s_Procedure_points) (defScope s_Procedure_points) .none kV26 dc26 pm26 an26 cd26 ct26), sl26⟩)
    (c26 : PySem.W.codeIn K cd26 "Procedure.points" = true)
    (k26 : PySem.W.keepIn K (.ref f26) = true)
    (a27 : PySem.W.findIn K (.ref e_Procedure) "called" = some (some (.ref p27)))
    (ga27 : PySem.W.specialIn K (.ref p27) "__get__" = some (some (.builtin "property.__get__")))
    (gb27 : PySem.W.takesIn K (.ref p27) = some true)
    (gc27 : PySem.W.recIn K p27 "property" = some (.ref f27 :: rs27))
    (l27 : K.lookup f27 = some ⟨oc27, od27, .func (PySem.W.fnOf "called" "Procedure.called" (defArgs s_Procedure_called) (defBody s_Procedure_called) (defScope s_Procedure_called) .none kV27 dc27 pm27 an27 cd27 ct27), sl27⟩)
    (c27 : PySem.W.codeIn K cd27 "Procedure.called" = true)
    (k27 : PySem.W.keepIn K (.ref f27) = true)
    (a28 : PySem.W.nsIn K mainGlobals "_law_is_as" = some (some (.ref f28)))
    (l28 : K.lookup f28 = some ⟨oc28, od28, .func (PySem.W.fnOf "_law_is_as" "_law_is_as" (defArgs s_law_is_as) (defBody s_law_is_as) (defScope s_law_is_as) .none kV28 dc28 pm28 an28 cd28 ct28), sl28⟩)
    (c28 : PySem.W.codeIn K cd28 "_law_is_as" = true)
    (k28 : PySem.W.keepIn K (.ref f28) = true)
    (a29 : PySem.W.findIn K (.ref e_Procedure) "__init__" = some (some (.ref f29)))
    (gd29 : PySem.W.isFn K (.ref f29) = true)
    (l29 : K.lookup f29 = some ⟨oc29, od29, .func (PySem.W.fnOf "__init__" "Procedure.__init__" (defArgs s_Procedure___init__) (defBody s_Procedure___init__) (defScope s_Procedure___init__) .none kV29 dc29 pm29 an29 cd29 ct29), sl29⟩)
    (c29 : PySem.W.codeIn K cd29 "Procedure.__init__" = true)
    (k29 : PySem.W.keepIn K (.ref f29) = true)
    (a30 : PySem.W.findCls K (.ref e_Procedure) (.type "type") "of" = some (.get (.builtin "classmethod.__get__") (.ref p30) .none (.ref e_Procedure)))
    (gc30 : PySem.W.recIn K p30 "classmethod" = some (.ref f30 :: rs30))
    (gd30 : PySem.W.fnIn K f30 = true)
    (l30 : K.lookup f30 = some ⟨oc30, od30, .func (PySem.W.fnOf "of" "Procedure.of" (defArgs s_Procedure_of) (defBody s_Procedure_of) (defScope s_Procedure_of) .none kV30 dc30 pm30 an30 cd30 ct30), sl30⟩)
    (c30 : PySem.W.codeIn K cd30 "Procedure.of" = true)
    (k30 : PySem.W.keepIn K (.ref f30) = true)
    (a31 : PySem.W.findIn K (.ref e_Procedure) "__len__" = some (some (.ref f31)))
    (gd31 : PySem.W.isFn K (.ref f31) = true)
    (l31 : K.lookup f31 = some ⟨oc31, od31, .func (PySem.W.fnOf "__len__" "Procedure.__len__" (defArgs s_Procedure___len__) (defBody s_Procedure___len__) (defScope s_Procedure___len__) .none kV31 dc31 pm31 an31 cd31 ct31), sl31⟩)
    (c31 : PySem.W.codeIn K cd31 "Procedure.__len__" = true)
    (k31 : PySem.W.keepIn K (.ref f31) = true)
    (a32 : PySem.W.findIn K (.ref e_Procedure) "__str__" = some (some (.ref f32)))
    (gd32 : PySem.W.isFn K (.ref f32) = true)
    (l32 : K.lookup f32 = some ⟨oc32, od32, .func (PySem.W.fnOf "__str__" "Procedure.__str__" (defArgs s_Procedure___str__) (defBody s_Procedure___str__) (defScope s_Procedure___str__) .none kV32 dc32 pm32 an32 cd32 ct32), sl32⟩)
    (c32 : PySem.W.codeIn K cd32 "Procedure.__str__" = true)
    (k32 : PySem.W.keepIn K (.ref f32) = true)
    (a33 : PySem.W.nsIn K mainGlobals "_law_right" = some (some (.ref f33)))
    (l33 : K.lookup f33 = some ⟨oc33, od33, .func (PySem.W.fnOf "_law_right" "_law_right" (defArgs s_law_right) (defBody s_law_right) (defScope s_law_right) .none kV33 dc33 pm33 an33 (.ref p33) ct33), sl33⟩)
    (c33 : PySem.W.codeIn K (.ref p33) "_law_right" = true)
    (k33 : PySem.W.keepIn K (.ref f33) = true)
    (u33 : K.lookup p33 = some ⟨.type "code", ud33, .fields vs33, us33⟩)
    (t33 : tabV vs33 = some P33)
    (o33 : codeV vs33 = true)
    (n33 : (p33 != P33) = true)
    (m33 : K.lookup P33 = none)
    (r33 : ((recsOf q).any fun e => e.name == "_law_right") = true)
    (a34 : PySem.W.nsIn K mainGlobals "law" = some (some (.ref f34)))
    (l34 : K.lookup f34 = some ⟨oc34, od34, .func (PySem.W.fnOf "law" "law" (defArgs s_law) (defBody s_law) (defScope s_law) .none kV34 dc34 pm34 an34 (.ref p34) ct34), sl34⟩)
    (c34 : PySem.W.codeIn K (.ref p34) "law" = true)
    (k34 : PySem.W.keepIn K (.ref f34) = true)
    (u34 : K.lookup p34 = some ⟨.type "code", ud34, .fields vs34, us34⟩)
    (t34 : tabV vs34 = some P34)
    (o34 : codeV vs34 = true)
    (n34 : (p34 != P34) = true)
    (m34 : K.lookup P34 = none)
    (r34 : ((recsOf q).any fun e => e.name == "law") = true)
    (z_abs : PySem.W.nsIn K mainGlobals "abs" = some none)
    (z_all : PySem.W.nsIn K mainGlobals "all" = some none)
    (z_bool : PySem.W.nsIn K mainGlobals "bool" = some none)
    (z_int : PySem.W.nsIn K mainGlobals "int" = some none)
    (z_isinstance : PySem.W.nsIn K mainGlobals "isinstance" = some none)
    (z_len : PySem.W.nsIn K mainGlobals "len" = some none)
    (z_list : PySem.W.nsIn K mainGlobals "list" = some none)
    (z_max : PySem.W.nsIn K mainGlobals "max" = some none)
    (z_min : PySem.W.nsIn K mainGlobals "min" = some none)
    (z_range : PySem.W.nsIn K mainGlobals "range" = some none)
    (z_repr : PySem.W.nsIn K mainGlobals "repr" = some none)
    (z_set : PySem.W.nsIn K mainGlobals "set" = some none)
    (z_sorted : PySem.W.nsIn K mainGlobals "sorted" = some none)
    (z_str : PySem.W.nsIn K mainGlobals "str" = some none)
    (z_tuple : PySem.W.nsIn K mainGlobals "tuple" = some none)
    (z_zip : PySem.W.nsIn K mainGlobals "zip" = some none)
    (y_LETTERS : PySem.W.nsIn K mainGlobals "LETTERS" = some (some (.str "abcdefghijklmnopqrstuvwxyz" tk_LETTERS)))
    (y_MAX_LETTERS : PySem.W.nsIn K mainGlobals "MAX_LETTERS" = some (some (.int (8) tk_MAX_LETTERS)))
    (y_MAX_MODES : PySem.W.nsIn K mainGlobals "MAX_MODES" = some (some (.int (5) tk_MAX_MODES)))
    (y_MAX_MOVES : PySem.W.nsIn K mainGlobals "MAX_MOVES" = some (some (.int (12) tk_MAX_MOVES)))
    (y_MAX_POINTS : PySem.W.nsIn K mainGlobals "MAX_POINTS" = some (some (.int (6) tk_MAX_POINTS)))
    (v1_InvalidProgram : PySem.W.nsIn K mainGlobals "InvalidProgram" = some (some (.ref e_InvalidProgram)))
    (v2_InvalidProgram : PySem.W.excIn K e_InvalidProgram [.type "ValueError", .type "Exception", .type "BaseException", .type "object"] "ValueError.__new__" = true)
    (v3_InvalidProgram : PySem.W.keepIn K (.ref e_InvalidProgram) = true)
    (v4_InvalidProgram : PySem.W.subIn K (.ref e_InvalidProgram) (.type "BaseException") = some true)
    (v5_InvalidProgram : PySem.W.typeIn K (.ref e_InvalidProgram) = some (.type "type"))
    (w4_InvalidProgram : PySem.W.hasDictIn K e_InvalidProgram = true)
    (w9_InvalidProgram : PySem.W.subIn K (.ref e_InvalidProgram) (.ref e_InvalidProgram) = some true)
    (am : PySem.W.nsIn K mainGlobals "_law_met" = some (some (.ref fm)))
    (lm : K.lookup fm = some ⟨ocm, odm, .func (PySem.W.fnOf "_law_met" "_law_met" (defArgs s_law_met) (defBody s_law_met) (defScope s_law_met) .none kVm dcm pmm anm cdm ctm), slm⟩)
    (cm : PySem.W.codeIn K cdm "_law_met" = true)
    (km : PySem.W.keepIn K (.ref fm) = true)
    (d33_34 : (P33 == P34) = false)
    : ∃ (fd : FuncData) (cs : List (Addr × Addr)) (cl : Cls_), (∀ p ∈ cs, h.get? p.2 = some { cls := .none, data := .fields #[] }) ∧ (∀ p ∈ cs, K.lookup p.2 = none) ∧ (∀ p ∈ cs, PySem.W.CodeHd h p.1 p.2) ∧ (∀ p ∈ cl.T, p.1 ∈ cs.map (·.2)) ∧ (∀ (s : Shared) (u : Value), BindsTo s fd ⟨[u], []⟩ [("script", u)]) ∧
      ∀ base : Heap, K.In base → base.Ns mainGlobals mg → (∀ p ∈ cs, LamX.TabB base mg p.1 p.2) → FnG l.prog w K mg base cl 11 fa fd ["script"] F_law := by
  have e := hfa.symm.trans (PySem.W.mg_of X G a34)
  cases e
  have T : Txt mg _ _ _ _ _ := ⟨PySem.W.mg_none_of X G z_abs, PySem.W.mg_none_of X G z_all, PySem.W.mg_none_of X G z_bool, PySem.W.mg_none_of X G z_int, PySem.W.mg_none_of X G z_isinstance, PySem.W.mg_none_of X G z_len, PySem.W.mg_none_of X G z_list, PySem.W.mg_none_of X G z_max, PySem.W.mg_none_of X G z_min, PySem.W.mg_none_of X G z_range, PySem.W.mg_none_of X G z_repr, PySem.W.mg_none_of X G z_set, PySem.W.mg_none_of X G z_sorted, PySem.W.mg_none_of X G z_str, PySem.W.mg_none_of X G z_tuple, PySem.W.mg_none_of X G z_zip, PySem.W.mg_of X G y_LETTERS, PySem.W.mg_of X G y_MAX_LETTERS, PySem.W.mg_of X G y_MAX_MODES, PySem.W.mg_of X G y_MAX_MOVES, PySem.W.mg_of X G y_MAX_POINTS⟩
  have G0 := fun_mk (st := s_is_integer) l0 c0 k0
  have D0 : Fd K mg "is_integer" "is_integer" s_is_integer ["value"] := ⟨_, _, G0, PySem.W.mg_of X G a0, k0, G0.binds (ps := ["value"]) fun _ _ _ _ _ _ us hl => match us, hl with | [_], _ => rfl⟩
  have G1 := fun_mk (st := s_is_below) l1 c1 k1
  have D1 : Fd K mg "is_below" "is_below" s_is_below ["value", "limit"] := ⟨_, _, G1, PySem.W.mg_of X G a1, k1, G1.binds (ps := ["value", "limit"]) fun _ _ _ _ _ _ us hl => match us, hl with | [_, _], _ => rfl⟩
  have G2 := fun_mk (st := s_is_ascending) l2 c2 k2
  have D2 : Fd K mg "is_ascending" "is_ascending" s_is_ascending ["items"] := ⟨_, _, G2, PySem.W.mg_of X G a2, k2, G2.binds (ps := ["items"]) fun _ _ _ _ _ _ us hl => match us, hl with | [_], _ => rfl⟩
  have G3 := fun_mk (st := s_is_pair) l3 c3 k3
  have D3 : Fd K mg "is_pair" "is_pair" s_is_pair ["value"] := ⟨_, _, G3, PySem.W.mg_of X G a3, k3, G3.binds (ps := ["value"]) fun _ _ _ _ _ _ us hl => match us, hl with | [_], _ => rfl⟩
  have G4 := fun_mk (st := s_is_name) l4 c4 k4
  have D4 : Fd K mg "is_name" "is_name" s_is_name ["value"] := ⟨_, _, G4, PySem.W.mg_of X G a4, k4, G4.binds (ps := ["value"]) fun _ _ _ _ _ _ us hl => match us, hl with | [_], _ => rfl⟩
  have G5 := fun_mk (st := s_is_mode_set) l5 c5 k5
  have D5 : Fd K mg "is_mode_set" "is_mode_set" s_is_mode_set ["value", "modes"] := ⟨_, _, G5, PySem.W.mg_of X G a5, k5, G5.binds (ps := ["value", "modes"]) fun _ _ _ _ _ _ us hl => match us, hl with | [_, _], _ => rfl⟩
  have G6 := fun_mk (st := s_are_pairs) l6 c6 k6
  have D6 : Fd K mg "are_pairs" "are_pairs" s_are_pairs ["value"] := ⟨_, _, G6, PySem.W.mg_of X G a6, k6, G6.binds (ps := ["value"]) fun _ _ _ _ _ _ us hl => match us, hl with | [_], _ => rfl⟩
  have G7 := fun_mk (st := s_is_move) l7 c7 k7
  have D7 : Fd K mg "is_move" "is_move" s_is_move ["value", "points"] := ⟨_, _, G7, PySem.W.mg_of X G a7, k7, G7.binds (ps := ["value", "points"]) fun _ _ _ _ _ _ us hl => match us, hl with | [_, _], _ => rfl⟩
  have G8 := fun_mk (st := s_law_numbers) l8 c8 k8
  have D8 : Fd K mg "_law_numbers" "_law_numbers" s_law_numbers ["script", "at"] := ⟨_, _, G8, PySem.W.mg_of X G a8, k8, G8.binds (ps := ["script", "at"]) fun _ _ _ _ _ _ us hl => match us, hl with | [_, _], _ => rfl⟩
  have G9 := fun_mk (st := s_law_cast) l9 c9 k9
  have D9 : Fd K mg "_law_cast" "_law_cast" s_law_cast ["die", "total"] := ⟨_, _, G9, PySem.W.mg_of X G a9, k9, G9.binds (ps := ["die", "total"]) fun _ _ _ _ _ _ us hl => match us, hl with | [_, _], _ => rfl⟩
  have G10 := fun_mk (st := s_law_pick) l10 c10 k10
  have D10 : Fd K mg "_law_pick" "_law_pick" s_law_pick ["die", "items"] := ⟨_, _, G10, PySem.W.mg_of X G a10, k10, G10.binds (ps := ["die", "items"]) fun _ _ _ _ _ _ us hl => match us, hl with | [_, _], _ => rfl⟩
  have G11 := fun_mk (st := s_law_shuffle) l11 c11 k11
  have D11 : Fd K mg "_law_shuffle" "_law_shuffle" s_law_shuffle ["die", "items"] := ⟨_, _, G11, PySem.W.mg_of X G a11, k11, G11.binds (ps := ["die", "items"]) fun _ _ _ _ _ _ us hl => match us, hl with | [_, _], _ => rfl⟩
  have G12 := fun_mk (st := s_law_subset) l12 c12 k12
  have D12 : Fd K mg "_law_subset" "_law_subset" s_law_subset ["die", "total"] := ⟨_, _, G12, PySem.W.mg_of X G a12, k12, G12.binds (ps := ["die", "total"]) fun _ _ _ _ _ _ us hl => match us, hl with | [_, _], _ => rfl⟩
  have G13 := fun_mk (st := s_law_is_number) l13 c13 k13
  have D13 : Fd K mg "_law_is_number" "_law_is_number" s_law_is_number ["value", "total"] := ⟨_, _, G13, PySem.W.mg_of X G a13, k13, G13.binds (ps := ["value", "total"]) fun _ _ _ _ _ _ us hl => match us, hl with | [_, _], _ => rfl⟩
  have G14 := fun_mk (st := s_law_is_word) l14 c14 k14
  have D14 : Fd K mg "_law_is_word" "_law_is_word" s_law_is_word ["value"] := ⟨_, _, G14, PySem.W.mg_of X G a14, k14, G14.binds (ps := ["value"]) fun _ _ _ _ _ _ us hl => match us, hl with | [_], _ => rfl⟩
  have G15 := fun_mk (st := s_law_is_set) l15 c15 k15
  have D15 : Fd K mg "_law_is_set" "_law_is_set" s_law_is_set ["value", "total"] := ⟨_, _, G15, PySem.W.mg_of X G a15, k15, G15.binds (ps := ["value", "total"]) fun _ _ _ _ _ _ us hl => match us, hl with | [_, _], _ => rfl⟩
  have G16 := fun_mk (st := s_law_is_pairs) l16 c16 k16
  have D16 : Fd K mg "_law_is_pairs" "_law_is_pairs" s_law_is_pairs ["value", "total"] := ⟨_, _, G16, PySem.W.mg_of X G a16, k16, G16.binds (ps := ["value", "total"]) fun _ _ _ _ _ _ us hl => match us, hl with | [_, _], _ => rfl⟩
  have G17 := fun_mk (st := s_law_bent_tuple) l17 c17 k17
  have D17 : Fd K mg "_law_bent_tuple" "_law_bent_tuple" s_law_bent_tuple ["die", "items", "odd"] := ⟨_, _, G17, PySem.W.mg_of X G a17, k17, G17.binds (ps := ["die", "items", "odd"]) fun _ _ _ _ _ _ us hl => match us, hl with | [_, _, _], _ => rfl⟩
  have G18 := fun_mk (st := s_law_odd_one) l18 c18 k18
  have D18 : Fd K mg "_law_odd_one" "_law_odd_one" s_law_odd_one ["die"] := ⟨_, _, G18, PySem.W.mg_of X G a18, k18, G18.binds (ps := ["die"]) fun _ _ _ _ _ _ us hl => match us, hl with | [_], _ => rfl⟩
  have G19 := fun_mk (st := s_law_bent_move) l19 c19 k19
  have D19 : Fd K mg "_law_bent_move" "_law_bent_move" s_law_bent_move ["die", "move"] := ⟨_, _, G19, PySem.W.mg_of X G a19, k19, G19.binds (ps := ["die", "move"]) fun _ _ _ _ _ _ us hl => match us, hl with | [_, _], _ => rfl⟩
  have G20 := fun_mk (st := s_law_a_move) l20 c20 k20
  have D20 : Fd K mg "_law_a_move" "_law_a_move" s_law_a_move ["die", "total", "points", "names"] := ⟨_, _, G20, PySem.W.mg_of X G a20, k20, G20.binds (ps := ["die", "total", "points", "names"]) fun _ _ _ _ _ _ us hl => match us, hl with | [_, _, _, _], _ => rfl⟩
  have G21 := fun_mk (st := s_law_any_plain) l21 c21 k21
  have D21 : Fd K mg "_law_any_plain" "_law_any_plain" s_law_any_plain ["die"] := ⟨_, _, G21, PySem.W.mg_of X G a21, k21, G21.binds (ps := ["die"]) fun _ _ _ _ _ _ us hl => match us, hl with | [_], _ => rfl⟩
  have G22 := fun_mk (st := s_law_is_step) l22 c22 k22
  have D22 : Fd K mg "_law_is_step" "_law_is_step" s_law_is_step ["value", "points", "total"] := ⟨_, _, G22, PySem.W.mg_of X G a22, k22, G22.binds (ps := ["value", "points", "total"]) fun _ _ _ _ _ _ us hl => match us, hl with | [_, _, _], _ => rfl⟩
  have G23 := fun_mk (st := s_law_is_due) l23 c23 k23
  have D23 : Fd K mg "_law_is_due" "_law_is_due" s_law_is_due ["called", "points", "moves"] := ⟨_, _, G23, PySem.W.mg_of X G a23, k23, G23.binds (ps := ["called", "points", "moves"]) fun _ _ _ _ _ _ us hl => match us, hl with | [_, _, _], _ => rfl⟩
  have G24 := fun_mk (st := s_Procedure___eq__) l24 c24 k24
  have G25 := fun_mk (st := s_Procedure_moves) l25 c25 k25
  have G26 := fun_mk (st := s_Procedure_points) l26 c26 k26
  have G27 := fun_mk (st := s_Procedure_called) l27 c27 k27
  have G28 := fun_mk (st := s_law_is_as) l28 c28 k28
  have D28 : Fd K mg "_law_is_as" "_law_is_as" s_law_is_as ["made", "band"] := ⟨_, _, G28, PySem.W.mg_of X G a28, k28, G28.binds (ps := ["made", "band"]) fun _ _ _ _ _ _ us hl => match us, hl with | [_, _], _ => rfl⟩
  have G29 := fun_mk (st := s_Procedure___init__) l29 c29 k29
  have G30 := fun_mk (st := s_Procedure_of) l30 c30 k30
  have G31 := fun_mk (st := s_Procedure___len__) l31 c31 k31
  have G32 := fun_mk (st := s_Procedure___str__) l32 c32 k32
  have G33 := fun_mk (st := s_law_right) l33 c33 k33
  have Q33 : FunC K "_law_right" "_law_right" s_law_right f33 _ p33 := ⟨⟨oc33, od33, kV33, dc33, pm33, an33, ct33, sl33, rfl, l33, c33⟩⟩
  have D33 : FdC K mg "_law_right" "_law_right" s_law_right ["die"] p33 := ⟨_, _, Q33, PySem.W.mg_of X G a33, k33, G33.binds (ps := ["die"]) fun _ _ _ _ _ _ us hl => match us, hl with | [_], _ => rfl⟩
  have G34 := fun_mk (st := s_law) l34 c34 k34
  have Q34 : FunC K "law" "law" s_law _ _ p34 := ⟨⟨oc34, od34, kV34, dc34, pm34, an34, ct34, sl34, rfl, l34, c34⟩⟩
  have V_InvalidProgram : ExV K mg (⟨clN K, [(P33, q_law_right), (P34, q_law)]⟩ : Cls_) "InvalidProgram" e_InvalidProgram := ⟨v2_InvalidProgram, PySem.W.mg_of X G v1_InvalidProgram, v3_InvalidProgram, v4_InvalidProgram, v5_InvalidProgram, by show clN K _ = _; unfold clN; rw [v1_InvalidProgram]⟩
  have A_Procedure := insB_ok q2_Procedure
  have FI_own_name : FldI K (⟨clN K, [(P33, q_law_right), (P34, q_law)]⟩ : Cls_) "own_name" fI_own_name := fldI_one A_Procedure q1_Procedure q3_Procedure (by decide +kernel)
  have FI_own_points : FldI K (⟨clN K, [(P33, q_law_right), (P34, q_law)]⟩ : Cls_) "own_points" fI_own_points := fldI_one A_Procedure q1_Procedure q3_Procedure (by decide +kernel)
  have FI_own_moves : FldI K (⟨clN K, [(P33, q_law_right), (P34, q_law)]⟩ : Cls_) "own_moves" fI_own_moves := fldI_one A_Procedure q1_Procedure q3_Procedure (by decide +kernel)
  have II_Procedure : IsI K mg (⟨clN K, [(P33, q_law_right), (P34, q_law)]⟩ : Cls_) "Procedure" tabI_Procedure := isI_ok X G q1_Procedure q4_Procedure
  have M_law_met : ∀ X : Cx, X.K = K → X.mg = mg → MetN X "_law_met" e_InvalidProgram := fun Z e1 e2 => by
    subst e1; subst e2
    exact met_mk (PySem.W.mg_of X G am) lm cm km (PySem.W.mg_of X G v1_InvalidProgram) (PySem.W.exm_ref v4_InvalidProgram w4_InvalidProgram v5_InvalidProgram w9_InvalidProgram)
  refine ⟨PySem.W.fnOf "law" "law" (defArgs s_law) (defBody s_law) (defScope s_law) .none kV34 dc34 pm34 an34 (.ref p34) ct34, [(p33, P33), (p34, P34)], ⟨clN K, [(P33, q_law_right), (P34, q_law)]⟩, ?_, ?_, ?_, ?_, fun s v => .of_eq rfl, fun base _ _ TB => ?_⟩
  · exact (List.forall_mem_cons.mpr ⟨own "_law_right" _ r33 (PySem.W.mg_of X G a33) p33 P33 _ _ _ _ _ _ l33 rfl rfl u33 (tabV_at t33), (List.forall_mem_cons.mpr ⟨own "law" _ r34 (PySem.W.mg_of X G a34) p34 P34 _ _ _ _ _ _ l34 rfl rfl u34 (tabV_at t34), (fun _ h => nomatch h)⟩)⟩)
  · exact (List.forall_mem_cons.mpr ⟨m33, (List.forall_mem_cons.mpr ⟨m34, (fun _ h => nomatch h)⟩)⟩)
  · exact (List.forall_mem_cons.mpr ⟨PySem.W.codeHd_of_K X (codeHd_at u33 t33 o33 n33), (List.forall_mem_cons.mpr ⟨PySem.W.codeHd_of_K X (codeHd_at u34 t34 o34 n34), (fun _ h => nomatch h)⟩)⟩)
  · intro p hp
    simp only [List.mem_cons, List.not_mem_nil, or_false, List.map_cons, List.map_nil] at hp ⊢
    rcases hp with rfl | rfl <;> simp
  have TB0 := TB
  have TB33 : LamX.TabB base mg p33 P33 := TB0 (p33, P33) (by simp)
  have TB34 : LamX.TabB base mg p34 P34 := TB0 (p34, P34) (by simp)
  have C_is_integer := ok_is_integer (P := l.prog) (w := w) (base := base) (cl := (⟨clN K, [(P33, q_law_right), (P34, q_law)]⟩ : Cls_)) T D0
  have C_is_below := ok_is_below (P := l.prog) (w := w) (base := base) (cl := (⟨clN K, [(P33, q_law_right), (P34, q_law)]⟩ : Cls_)) T D1 C_is_integer
  have C_is_ascending := ok_is_ascending (P := l.prog) (w := w) (base := base) (cl := (⟨clN K, [(P33, q_law_right), (P34, q_law)]⟩ : Cls_)) T D2
  have C_is_pair := ok_is_pair (P := l.prog) (w := w) (base := base) (cl := (⟨clN K, [(P33, q_law_right), (P34, q_law)]⟩ : Cls_)) T D3
  have C_is_name := ok_is_name (P := l.prog) (w := w) (base := base) (cl := (⟨clN K, [(P33, q_law_right), (P34, q_law)]⟩ : Cls_)) T D4
  have C_is_mode_set := ok_is_mode_set (P := l.prog) (w := w) (base := base) (cl := (⟨clN K, [(P33, q_law_right), (P34, q_law)]⟩ : Cls_)) T D5 C_is_below C_is_ascending
  have C_are_pairs := ok_are_pairs (P := l.prog) (w := w) (base := base) (cl := (⟨clN K, [(P33, q_law_right), (P34, q_law)]⟩ : Cls_)) T D6 C_is_ascending C_is_below C_is_pair
  have C_is_move := ok_is_move (P := l.prog) (w := w) (base := base) (cl := (⟨clN K, [(P33, q_law_right), (P34, q_law)]⟩ : Cls_)) T D7 C_is_below C_is_mode_set C_is_name C_are_pairs
  have C_law_numbers := ok_law_numbers (P := l.prog) (w := w) (base := base) (cl := (⟨clN K, [(P33, q_law_right), (P34, q_law)]⟩ : Cls_)) T D8
  have C_law_cast := ok_law_cast (P := l.prog) (w := w) (base := base) (cl := (⟨clN K, [(P33, q_law_right), (P34, q_law)]⟩ : Cls_)) T D9
  have C_law_pick := ok_law_pick (P := l.prog) (w := w) (base := base) (cl := (⟨clN K, [(P33, q_law_right), (P34, q_law)]⟩ : Cls_)) T D10 C_law_cast
  have C_law_shuffle := ok_law_shuffle (P := l.prog) (w := w) (base := base) (cl := (⟨clN K, [(P33, q_law_right), (P34, q_law)]⟩ : Cls_)) T D11 C_law_cast
  have C_law_subset := ok_law_subset (P := l.prog) (w := w) (base := base) (cl := (⟨clN K, [(P33, q_law_right), (P34, q_law)]⟩ : Cls_)) T D12 C_law_cast
  have C_law_is_number := ok_law_is_number (P := l.prog) (w := w) (base := base) (cl := (⟨clN K, [(P33, q_law_right), (P34, q_law)]⟩ : Cls_)) T D13
  have C_law_is_word := ok_law_is_word (P := l.prog) (w := w) (base := base) (cl := (⟨clN K, [(P33, q_law_right), (P34, q_law)]⟩ : Cls_)) T D14
  have C_law_is_set := ok_law_is_set (P := l.prog) (w := w) (base := base) (cl := (⟨clN K, [(P33, q_law_right), (P34, q_law)]⟩ : Cls_)) T D15 C_law_is_number
  have C_law_is_pairs := ok_law_is_pairs (P := l.prog) (w := w) (base := base) (cl := (⟨clN K, [(P33, q_law_right), (P34, q_law)]⟩ : Cls_)) T D16 C_law_is_number
  have C_law_bent_tuple := ok_law_bent_tuple (P := l.prog) (w := w) (base := base) (cl := (⟨clN K, [(P33, q_law_right), (P34, q_law)]⟩ : Cls_)) T D17 C_law_pick C_law_cast
  have C_law_odd_one := ok_law_odd_one (P := l.prog) (w := w) (base := base) (cl := (⟨clN K, [(P33, q_law_right), (P34, q_law)]⟩ : Cls_)) T D18 C_law_pick
  have C_law_bent_move := ok_law_bent_move (P := l.prog) (w := w) (base := base) (cl := (⟨clN K, [(P33, q_law_right), (P34, q_law)]⟩ : Cls_)) T D19 C_law_bent_tuple C_law_cast C_law_odd_one
  have C_law_a_move := ok_law_a_move (P := l.prog) (w := w) (base := base) (cl := (⟨clN K, [(P33, q_law_right), (P34, q_law)]⟩ : Cls_)) T D20 C_law_cast C_law_pick C_law_subset
  have C_law_any_plain := ok_law_any_plain (P := l.prog) (w := w) (base := base) (cl := (⟨clN K, [(P33, q_law_right), (P34, q_law)]⟩ : Cls_)) T D21 C_law_subset C_law_pick C_law_cast C_law_a_move C_law_shuffle
  have C_law_is_step := ok_law_is_step (P := l.prog) (w := w) (base := base) (cl := (⟨clN K, [(P33, q_law_right), (P34, q_law)]⟩ : Cls_)) T D22 C_law_is_word C_law_is_set C_law_is_pairs C_law_is_number
  have C_law_is_due := ok_law_is_due (P := l.prog) (w := w) (base := base) (cl := (⟨clN K, [(P33, q_law_right), (P34, q_law)]⟩ : Cls_)) T D23 C_law_is_step C_law_is_word C_law_is_number
  have S24 := ok_Procedure___eq__ (P := l.prog) (w := w) (base := base) (cl := (⟨clN K, [(P33, q_law_right), (P34, q_law)]⟩ : Cls_)) T G24 FI_own_name FI_own_points FI_own_moves II_Procedure
  have R24 := toN_of (n := 2) (x := "__eq__") (qual := "Procedure.__eq__") (st := s_Procedure___eq__) rfl S24 (G24.binds (ps := ["self", "other"]) fun _ _ _ _ _ _ us hl => match us, hl with | [_, _], _ => rfl)
  have EQ_Procedure : OwnE l.prog w K mg base (⟨clN K, [(P33, q_law_right), (P34, q_law)]⟩ : Cls_) "Procedure" 1 (cF 2 F_Procedure___eq__) := ownE_of A_Procedure q1_Procedure a24 q6_Procedure gd24 q5_Procedure R24
  have S25 := ok_Procedure_moves (P := l.prog) (w := w) (base := base) (cl := (⟨clN K, [(P33, q_law_right), (P34, q_law)]⟩ : Cls_)) T G25 FI_own_moves
  have R25 := toN_of (n := 1) (x := "moves") (qual := "Procedure.moves") (st := s_Procedure_moves) rfl S25 (G25.binds (ps := ["self"]) fun _ _ _ _ _ _ us hl => match us, hl with | [_], _ => rfl)
  have PR_moves : PropI l.prog w K mg base (⟨clN K, [(P33, q_law_right), (P34, q_law)]⟩ : Cls_) "moves" "Procedure" 1 (cF 1 F_Procedure_moves) := propI_of A_Procedure q1_Procedure ⟨a25, ga25, gb25, ⟨_, gc25⟩⟩ R25
  have S26 := ok_Procedure_points (P := l.prog) (w := w) (base := base) (cl := (⟨clN K, [(P33, q_law_right), (P34, q_law)]⟩ : Cls_)) T G26 FI_own_points
  have R26 := toN_of (n := 1) (x := "points") (qual := "Procedure.points") (st := s_Procedure_points) rfl S26 (G26.binds (ps := ["self"]) fun _ _ _ _ _ _ us hl => match us, hl with | [_], _ => rfl)
  have PR_points : PropI l.prog w K mg base (⟨clN K, [(P33, q_law_right), (P34, q_law)]⟩ : Cls_) "points" "Procedure" 1 (cF 1 F_Procedure_points) := propI_of A_Procedure q1_Procedure ⟨a26, ga26, gb26, ⟨_, gc26⟩⟩ R26
  have S27 := ok_Procedure_called (P := l.prog) (w := w) (base := base) (cl := (⟨clN K, [(P33, q_law_right), (P34, q_law)]⟩ : Cls_)) T G27 FI_own_name
  have R27 := toN_of (n := 1) (x := "called") (qual := "Procedure.called") (st := s_Procedure_called) rfl S27 (G27.binds (ps := ["self"]) fun _ _ _ _ _ _ us hl => match us, hl with | [_], _ => rfl)
  have PR_called : PropI l.prog w K mg base (⟨clN K, [(P33, q_law_right), (P34, q_law)]⟩ : Cls_) "called" "Procedure" 1 (cF 1 F_Procedure_called) := propI_of A_Procedure q1_Procedure ⟨a27, ga27, gb27, ⟨_, gc27⟩⟩ R27
  have C_law_is_as := ok_law_is_as (P := l.prog) (w := w) (base := base) (cl := (⟨clN K, [(P33, q_law_right), (P34, q_law)]⟩ : Cls_)) T D28 EQ_Procedure PR_moves PR_points PR_called
  have R29 := ok_Procedure___init__ (P := l.prog) (w := w) (base := base) (cl := (⟨clN K, [(P33, q_law_right), (P34, q_law)]⟩ : Cls_)) T l29 c29 V_InvalidProgram FI_own_moves FI_own_points FI_own_name C_is_move C_is_name C_is_integer
  have MK_Procedure : MkI l.prog w K mg base (⟨clN K, [(P33, q_law_right), (P34, q_law)]⟩ : Cls_) "Procedure" 5 (starF 3 F_Procedure___init__) := mkI_of X G A_Procedure q1_Procedure a29 gd29 R29
  have S30 := ok_Procedure_of (P := l.prog) (w := w) (base := base) (cl := (⟨clN K, [(P33, q_law_right), (P34, q_law)]⟩ : Cls_)) T G30 V_InvalidProgram MK_Procedure
  have R30 := toN_of (n := 4) (x := "of") (qual := "Procedure.of") (st := s_Procedure_of) rfl S30 (G30.binds (ps := ["cls", "called", "points", "moves"]) fun _ _ _ _ _ _ us hl => match us, hl with | [_, _, _, _], _ => rfl)
  have CM_of : CMetI l.prog w K mg base (⟨clN K, [(P33, q_law_right), (P34, q_law)]⟩ : Cls_) "of" "Procedure" 7 (cF 4 F_Procedure_of) := cmetI_of (mc := .type "type") X G q1_Procedure ⟨q7_Procedure, q8_Procedure⟩ ⟨a30, ⟨_, gc30⟩, gd30⟩ R30
  have S31 := ok_Procedure___len__ (P := l.prog) (w := w) (base := base) (cl := (⟨clN K, [(P33, q_law_right), (P34, q_law)]⟩ : Cls_)) T G31 FI_own_moves
  have R31 := toN_of (n := 1) (x := "__len__") (qual := "Procedure.__len__") (st := s_Procedure___len__) rfl S31 (G31.binds (ps := ["self"]) fun _ _ _ _ _ _ us hl => match us, hl with | [_], _ => rfl)
  have LN_Procedure : OwnM l.prog w K mg base (⟨clN K, [(P33, q_law_right), (P34, q_law)]⟩ : Cls_) "__len__" "Procedure" 1 (cF 1 F_Procedure___len__) := ownM_of q1_Procedure a31 gd31 R31
  have S32 := ok_Procedure___str__ (P := l.prog) (w := w) (base := base) (cl := (⟨clN K, [(P33, q_law_right), (P34, q_law)]⟩ : Cls_)) T G32 FI_own_name FI_own_points FI_own_moves
  have R32 := toN_of (n := 1) (x := "__str__") (qual := "Procedure.__str__") (st := s_Procedure___str__) rfl S32 (G32.binds (ps := ["self"]) fun _ _ _ _ _ _ us hl => match us, hl with | [_], _ => rfl)
  have ST_Procedure : OwnM l.prog w K mg base (⟨clN K, [(P33, q_law_right), (P34, q_law)]⟩ : Cls_) "__str__" "Procedure" 1 (cF 1 F_Procedure___str__) := ownM_of q1_Procedure a32 gd32 R32
  have HU33 : ∀ p ∈ ([(P33, q_law_right), (P34, q_law)] : List (Addr × Str)), p.1 = P33 → p.2 = q_law_right := (List.forall_mem_cons.mpr ⟨(fun _ => rfl), (List.forall_mem_cons.mpr ⟨(fun (e : P34 = P33) => by subst e; simp at d33_34), (fun _ h => nomatch h)⟩)⟩)
  have C_law_right := ok_law_right (P := l.prog) (w := w) (base := base) (cl := (⟨clN K, [(P33, q_law_right), (P34, q_law)]⟩ : Cls_)) T D33 V_InvalidProgram M_law_met TB33 (by simp) HU33 EQ_Procedure CM_of LN_Procedure ST_Procedure PR_moves PR_points PR_called C_law_is_as C_law_is_due C_law_pick C_law_cast C_law_bent_tuple C_law_bent_move C_law_odd_one C_law_any_plain
  have HU34 : ∀ p ∈ ([(P33, q_law_right), (P34, q_law)] : List (Addr × Str)), p.1 = P34 → p.2 = q_law := (List.forall_mem_cons.mpr ⟨(fun (e : P33 = P34) => by subst e; simp at d33_34), (List.forall_mem_cons.mpr ⟨(fun _ => rfl), (fun _ h => nomatch h)⟩)⟩)
  exact ok_law T Q34 V_InvalidProgram M_law_met TB34 (by simp) HU34 EQ_Procedure MK_Procedure CM_of LN_Procedure C_law_right C_law_numbers
end K10
open PySem PySem.W PyProof.Rows in
set_option maxRecDepth 100000 in
set_option maxHeartbeats 0 in
theorem PySem.Challenge.cw_postedbag_k10_procedures_by_form_holds : PySem.Challenge.rw_postedbag_k10_procedures_by_form.Holds := by
  w_on; o_law; k_head; (case hw => w_witness2)
  k_fill
  refine DN.walk_DG (l := PySem.Challenge.rw_postedbag_k10_procedures_by_form) (n := 63) (k := 11) (F := K10.F_law) rfl (by decide) rfl ⟨rfl, by decide, by decide⟩ (fun w h Y => by first | exact PySem.W.kIn_of Y | exact PySem.W.km_in_of Y) K10.main ?F
  case F =>
    intro w mg fa h KX G hmg own
    refine' K10.all_mk KX G hmg own ?a0 ?l0 ?c0 ?k0 ?a1 ?l1 ?c1 ?k1 ?a2 ?l2 ?c2 ?k2 ?a3 ?l3 ?c3 ?k3 ?a4 ?l4 ?c4 ?k4 ?a5 ?l5 ?c5 ?k5 ?a6 ?l6 ?c6 ?k6 ?a7 ?l7 ?c7 ?k7 ?a8 ?l8 ?c8 ?k8 ?a9 ?l9 ?c9 ?k9 ?a10 ?l10 ?c10 ?k10 ?a11 ?l11 ?c11 ?k11 ?a12 ?l12 ?c12 ?k12 ?a13 ?l13 ?c13 ?k13 ?a14 ?l14 ?c14 ?k14 ?a15 ?l15 ?c15 ?k15 ?a16 ?l16 ?c16 ?k16 ?a17 ?l17 ?c17 ?k17 ?a18 ?l18 ?c18 ?k18 ?a19 ?l19 ?c19 ?k19 ?a20 ?l20 ?c20 ?k20 ?a21 ?l21 ?c21 ?k21 ?a22 ?l22 ?c22 ?k22 ?a23 ?l23 ?c23 ?k23 ?q1_Procedure ?q2_Procedure ?q3_Procedure ?q4_Procedure ?q5_Procedure ?q6_Procedure ?q7_Procedure ?q8_Procedure ?a24 ?gd24 ?l24 ?c24 ?k24 ?a25 ?ga25 ?gb25 ?gc25 ?l25 ?c25 ?k25 ?a26 ?ga26 ?gb26 ?gc26 ?l26 ?c26 ?k26 ?a27 ?ga27 ?gb27 ?gc27 ?l27 ?c27 ?k27 ?a28 ?l28 ?c28 ?k28 ?a29 ?gd29 ?l29 ?c29 ?k29 ?a30 ?gc30 ?gd30 ?l30 ?c30 ?k30 ?a31 ?gd31 ?l31 ?c31 ?k31 ?a32 ?gd32 ?l32 ?c32 ?k32 ?a33 ?l33 ?c33 ?k33 ?u33 ?t33 ?o33 ?n33 ?m33 ?r33 ?a34 ?l34 ?c34 ?k34 ?u34 ?t34 ?o34 ?n34 ?m34 ?r34 ?z_abs ?z_all ?z_bool ?z_int ?z_isinstance ?z_len ?z_list ?z_max ?z_min ?z_range ?z_repr ?z_set ?z_sorted ?z_str ?z_tuple ?z_zip ?y_LETTERS ?y_MAX_LETTERS ?y_MAX_MODES ?y_MAX_MOVES ?y_MAX_POINTS ?v1_InvalidProgram ?v2_InvalidProgram ?v3_InvalidProgram ?v4_InvalidProgram ?v5_InvalidProgram ?w4_InvalidProgram ?w9_InvalidProgram ?am ?lm ?cm ?km ?d33_34
    (case a0 => k_is)
    (case l0 => k_is)
    (case c0 => k_is)
    (case k0 => k_is)
    (case a1 => k_is)
    (case l1 => k_is)
    (case c1 => k_is)
    (case k1 => k_is)
    (case a2 => k_is)
    (case l2 => k_is)
    (case c2 => k_is)
    (case k2 => k_is)
    (case a3 => k_is)
    (case l3 => k_is)
    (case c3 => k_is)
    (case k3 => k_is)
    (case a4 => k_is)
    (case l4 => k_is)
    (case c4 => k_is)
    (case k4 => k_is)
    (case a5 => k_is)
    (case l5 => k_is)
    (case c5 => k_is)
    (case k5 => k_is)
    (case a6 => k_is)
    (case l6 => k_is)
    (case c6 => k_is)
    (case k6 => k_is)
    (case a7 => k_is)
    (case l7 => k_is)
    (case c7 => k_is)
    (case k7 => k_is)
    (case a8 => k_is)
    (case l8 => k_is)
    (case c8 => k_is)
    (case k8 => k_is)
    (case a9 => k_is)
    (case l9 => k_is)
    (case c9 => k_is)
    (case k9 => k_is)
    (case a10 => k_is)
    (case l10 => k_is)
    (case c10 => k_is)
    (case k10 => k_is)
    (case a11 => k_is)
    (case l11 => k_is)
    (case c11 => k_is)
    (case k11 => k_is)
    (case a12 => k_is)
    (case l12 => k_is)
    (case c12 => k_is)
    (case k12 => k_is)
    (case a13 => k_is)
    (case l13 => k_is)
    (case c13 => k_is)
    (case k13 => k_is)
    (case a14 => k_is)
    (case l14 => k_is)
    (case c14 => k_is)
    (case k14 => k_is)
    (case a15 => k_is)
    (case l15 => k_is)
    (case c15 => k_is)
    (case k15 => k_is)
    (case a16 => k_is)
    (case l16 => k_is)
    (case c16 => k_is)
    (case k16 => k_is)
    (case a17 => k_is)
    (case l17 => k_is)
    (case c17 => k_is)
    (case k17 => k_is)
    (case a18 => k_is)
    (case l18 => k_is)
    (case c18 => k_is)
    (case k18 => k_is)
    (case a19 => k_is)
    (case l19 => k_is)
    (case c19 => k_is)
    (case k19 => k_is)
    (case a20 => k_is)
    (case l20 => k_is)
    (case c20 => k_is)
    (case k20 => k_is)
    (case a21 => k_is)
    (case l21 => k_is)
    (case c21 => k_is)
    (case k21 => k_is)
    (case a22 => k_is)
    (case l22 => k_is)
    (case c22 => k_is)
    (case k22 => k_is)
    (case a23 => k_is)
    (case l23 => k_is)
    (case c23 => k_is)
    (case k23 => k_is)
    (case q1_Procedure => k_is)
    (case q2_Procedure => kernel_rfl)
    (case q3_Procedure => kernel_rfl)
    (case q4_Procedure => kernel_rfl)
    (case q5_Procedure => kernel_rfl)
    (case q6_Procedure => k_is)
    (case q7_Procedure => k_is)
    (case q8_Procedure => k_is)
    (case a24 => k_is)
    (case gd24 => k_is)
    (case l24 => k_is)
    (case c24 => k_is)
    (case k24 => k_is)
    (case a25 => k_is)
    (case ga25 => k_is)
    (case gb25 => k_is)
    (case gc25 => k_is)
    (case l25 => k_is)
    (case c25 => k_is)
    (case k25 => k_is)
    (case a26 => k_is)
    (case ga26 => k_is)
    (case gb26 => k_is)
    (case gc26 => k_is)
    (case l26 => k_is)
    (case c26 => k_is)
    (case k26 => k_is)
    (case a27 => k_is)
    (case ga27 => k_is)
    (case gb27 => k_is)
    (case gc27 => k_is)
    (case l27 => k_is)
    (case c27 => k_is)
    (case k27 => k_is)
    (case a28 => k_is)
    (case l28 => k_is)
    (case c28 => k_is)
    (case k28 => k_is)
    (case a29 => k_is)
    (case gd29 => k_is)
    (case l29 => k_is)
    (case c29 => k_is)
    (case k29 => k_is)
    (case a30 => k_is)
    (case gc30 => k_is)
    (case gd30 => k_is)
    (case l30 => k_is)
    (case c30 => k_is)
    (case k30 => k_is)
    (case a31 => k_is)
    (case gd31 => k_is)
    (case l31 => k_is)
    (case c31 => k_is)
    (case k31 => k_is)
    (case a32 => k_is)
    (case gd32 => k_is)
    (case l32 => k_is)
    (case c32 => k_is)
    (case k32 => k_is)
    (case a33 => k_is)
    (case l33 => k_is)
    (case c33 => k_is)
    (case k33 => k_is)
    (case u33 => k_is)
    (case t33 => rfl)
    (case o33 => rfl)
    (case n33 => rfl)
    (case m33 => rfl)
    (case r33 => first | rfl | decide +kernel)
    (case a34 => k_is)
    (case l34 => k_is)
    (case c34 => k_is)
    (case k34 => k_is)
    (case u34 => k_is)
    (case t34 => rfl)
    (case o34 => rfl)
    (case n34 => rfl)
    (case m34 => rfl)
    (case r34 => first | rfl | decide +kernel)
    (case z_abs => k_is)
    (case z_all => k_is)
    (case z_bool => k_is)
    (case z_int => k_is)
    (case z_isinstance => k_is)
    (case z_len => k_is)
    (case z_list => k_is)
    (case z_max => k_is)
    (case z_min => k_is)
    (case z_range => k_is)
    (case z_repr => k_is)
    (case z_set => k_is)
    (case z_sorted => k_is)
    (case z_str => k_is)
    (case z_tuple => k_is)
    (case z_zip => k_is)
    (case y_LETTERS => k_is)
    (case y_MAX_LETTERS => k_is)
    (case y_MAX_MODES => k_is)
    (case y_MAX_MOVES => k_is)
    (case y_MAX_POINTS => k_is)
    (case v1_InvalidProgram => k_is)
    (case v2_InvalidProgram => k_exc)
    (case v3_InvalidProgram => k_is)
    (case v4_InvalidProgram => k_is)
    (case v5_InvalidProgram => k_is)
    (case w4_InvalidProgram => k_is)
    (case w9_InvalidProgram => k_is)
    (case am => k_is)
    (case lm => k_is)
    (case cm => k_is)
    (case km => k_is)
    (case d33_34 => rfl)
